import PyProof.Rows.All
import Wide.All
import OpenK.AllK
import Wide.FinOn
import HandS.ForMost
import HandS.Conv
import HandS.OwnEq
import KE.SortData
import KE.SortKeyHeap
import KE.KDictSum
import KE.KDictCopyH
import KE.KDictKeyed
import HandS.Iter
import HandS.SetKeys
import HandS.Codes
import HandS.Evl
import HandS.SortKw
import HandS.Nested
import HandS.Zip
import HandS.Defaults
import HandS.Style
import KE.LtData
import KE.KRevSl
import KE.KCallOwn
import PyProof.ReprRoads
import HandS.HeadHook1
import HandS.HeadHook2
import HandS.HeadHook3
import HandS.HeadHook4
import HandS.IsInst
import PySem.Challenge.RW_takesworks_k81_whole_lists_are_one
import HandS.StrMore
import HandS.FStr
import HandS.Strs
import PyProof.Rows.StrJoinMade
import PyProof.FitsStr
import HandS.TupAny
import HandS.TupMul
import HandS.Flow
import HandS.TupLen
import HandS.Wide
import PyProof.ListStr
import HandS.MakeKw
import HandS.MakeKwOnly
import PyProof.ReprBulk
import KE.KStateDown
import HandS.Head0
import HandS.Head1
import HandS.Head2
import HandS.EndTab
set_option Elab.async false
set_option linter.all false
set_option maxRecDepth 100000
set_option maxHeartbeats 4000000
namespace TW
open PySem PySem.Spec PyProof.Rows L2
open PySem.W (EachIs AllAlike Sortable dataLe)

/-! ### sorting of values that stand for data -/
abbrev VD := V × PyData
def srt (bs : List VD) : List V := (bs.mergeSort (dataLe false Prod.snd)).map Prod.fst
structure SortOk (K : PySem.W.Frag) (H : Hp) (bs : List VD) : Prop where
  dp : ∀ p ∈ bs, Dp K H p.1 p.2
  al : AllAlike (bs.map Prod.snd)
  so : Sortable (bs.map Prod.snd)
  dep : ∀ p ∈ bs, p.2.depth ≤ 40
mutual
theorem reads_in {h : Heap} : ∀ {d : PyData} {v : Value} {as : List Addr}, Reads h v d as → ∀ a ∈ as, a < h.objs.size
  | _, _, _, .none, _, ha => nomatch ha
  | _, _, _, .bool _, _, ha => nomatch ha
  | _, _, _, .int _ _, _, ha => nomatch ha
  | _, _, _, .str _ _, _, ha => nomatch ha
  | _, _, _, .list e _ _ r, a, ha => by
    rcases List.mem_cons.mp ha with z | z
    · rw [z]
      exact Heap.lt_size e
    · exact readsAll_in r a z
  | _, _, _, .tuple _ _ _ r, a, ha => readsAll_in r a ha
  | _, _, _, .dict e _ _ r r', a, ha => by
    rcases List.mem_append.mp ha with z | z
    · rcases List.mem_cons.mp z with z | z
      · rw [z]
        exact Heap.lt_size e
      · exact readsAll_in r a z
    · exact readsAll_in r' a z
theorem readsAll_in {h : Heap} : ∀ {ds : List PyData} {vs : List Value} {as : List Addr}, ReadsAll h vs ds as → ∀ a ∈ as, a < h.objs.size
  | _, _, _, .nil, _, ha => nomatch ha
  | _, _, _, .cons r r', a, ha => by
    rcases List.mem_append.mp ha with z | z
    · exact reads_in r a z
    · exact readsAll_in r' a z
end
theorem each_rel : ∀ {bs : List VD} {us : List Value}, Vals (bs.map Prod.fst) us → EachIs (fun u (p : VD) => RelV p.1 u) us bs
  | [], us, r => by
    rw [List.map_nil] at r
    cases r
    exact .nil
  | p :: bs, us, r => by
    rw [List.map_cons] at r
    cases r with
    | cons h t => exact .cons h (each_rel t)
theorem rel_each : ∀ {bs : List VD} {us : List Value}, EachIs (fun u (p : VD) => RelV p.1 u) us bs → Vals (bs.map Prod.fst) us
  | _, _, .nil => .nil
  | _, _, .cons h t => .cons h (rel_each t)
section
variable {X : Cx} {pins : List (Addr × Obj)} {σ : L2.St} {H : Hp} {s : Shared} {bs : List VD}
theorem each_reads (I : L2.Inv X pins σ H s) : ∀ {bs : List VD} {us : List Value}, (∀ p ∈ bs, Dp X.K H p.1 p.2) → Vals (bs.map Prod.fst) us → EachIs (fun u (p : VD) => ∃ as, Reads s.heap u p.2 as) us bs
  | [], us, _, r => by
    rw [List.map_nil] at r
    cases r
    exact .nil
  | p :: bs, us, hd, r => by
    rw [List.map_cons] at r
    cases r with
    | cons h t => exact .cons (Dp.reads I _ _ _ (hd p List.mem_cons_self) h) (each_reads I (fun q hq => hd q (List.mem_cons_of_mem _ hq)) t)
theorem len_each {α β : Type} {R : α → β → Prop} : ∀ {as : List α} {bs : List β}, EachIs R as bs → as.length = bs.length
  | _, _, .nil => rfl
  | _, _, .cons _ t => congrArg (· + 1) (len_each t)
/-- sorted(l) -/
def rSortL (K : PySem.W.Frag) : List V → Hp → VK → Prop := fun vs H Q => ∃ (a : Addr) (bs : List VD), vs = [V.ref a] ∧ SqL K H a (bs.map Prod.fst) ∧ SortOk K H bs ∧ ∀ p, H p = none → Q (.ref p) (upd H p (.lst (srt bs)))
theorem cr_sortL (hu : X.A.units + 64 < cLine) : CallR X (.builtin "sorted") (rSortL X.K) := by
  intro pins s σ H vs us Q I r h
  obtain ⟨a, bs, rfl, hs, ok, q⟩ := h
  obtain ⟨its, rv, hl, hz⟩ := I.list hs
  rw [List.length_map] at hz
  rw [Vals.ref1 r]
  refine PySem.W.sorted_data (R := fun u (p : VD) => RelV p.1 u) (enc := Prod.snd) hl.isList (each_rel rv) (each_reads I ok.dp rv) ok.al ok.so hz (fun p hp => by have := ok.dep p hp; omega) fun out hlen e => ?_
  obtain ⟨ep, he'⟩ := PyProof.Rows.sortedAll_at s.heap its (List.toArray out)
  have hv : Vals (srt bs) out := rel_each e
  have hlen2 : (srt bs).length ≤ sizeLine := by rw [hv.length, hlen]; exact hz
  exact ⟨.ref _, upd H (s.heap.objs.size + 1) (.lst (srt bs)), I.laid (t' := s.toks) (fun _ _ => PyProof.Rows.sortedAll_old) (Nat.le_succ _) ⟨hlen2, out, ep, hv, he'⟩, rfl, q _ (I.hok.fresh (Nat.le_succ _))⟩

/-- sorted(d), d a dict whose keys stand for data -/
theorem sort_raw {d : Addr} {es : Array DictEntry} {ep : Nat} {Q : VK} (hcalm : X.calm = true) (hu : X.A.units + 64 < cLine) (I : L2.Inv X pins σ H s) (lo : (d == sysModules) = false) (hr : s.heap.DictRaw d es ep) (hsz : es.size ≤ sizeLine)
    (rv : Vals (bs.map Prod.fst) (es.toList.map (·.key))) (ok : SortOk X.K H bs) (q : ∀ p, H p = none → Q (.ref p) (upd H p (.lst (srt bs)))) :
    wpAny (model X.prog X.w) X.A (call (.builtin "sorted") [.ref d]) (EP X pins σ Q) X.xe s := by
  refine Calls.call_function_entry PyProof.Rows.kind_sorted PyProof.Rows.plain_sorted PyProof.Rows.entry_sorted (PyProof.Rows.args_sorted1 _) ?_
  unfold Builtin.«sorted»
  refine wpAny_bind (m := checkCount "sorted" 1 1 _) (wpAny_pure ?_)
  refine wpAny_bind (PySem.W.kdu_collect (A := X.A.in1) (KdlSrc.rawDict (es := es) (ep := ep) lo) (I.ok.hd hcalm) hr hsz fun h' tk acc hk hacc => ?_)
  have hal : acc.toList = es.toList.map (·.key) := by
    have hl : acc.toList.length = es.size := by rw [Array.length_toList]; exact hacc.1
    apply List.ext_getElem?
    intro j
    rw [List.getElem?_map]
    cases hj : acc.toList[j]? with
    | none =>
      have h1 := List.getElem?_eq_none_iff.mp hj
      rw [List.getElem?_eq_none (by rw [Array.length_toList]; omega)]
      all_goals rfl
    | some v =>
      obtain ⟨hi, hv⟩ := hacc.2 j v (by rw [← Array.getElem?_toList]; exact hj)
      rw [Array.getElem?_toList, Array.getElem?_eq_getElem hi, hv]
      all_goals rfl
  rw [← hal] at rv
  have hal2 : acc.toList.length = bs.length := by rw [← rv.length, List.length_map]
  have hbs : bs.length ≤ sizeLine := by
    rw [← hal2, Array.length_toList, hacc.1]
    exact hsz
  have I1 : L2.Inv X pins σ H { s with heap := h', toks := tk } := I.kept hk
  refine wpAny_bind (wpAny_newList ?_ (by rw [hal2]; exact hbs))
  have hoL : (h'.push (seqObj "list" acc.toList.toArray 0)).get? h'.objs.size = some (seqObj "list" acc.toList.toArray 0) := Heap.get?_push_size _ rfl
  have er : EachIs (fun u (p : VD) => ∃ as, Reads h' u p.2 as) acc.toList bs := each_reads (s := { s with heap := h', toks := tk }) I1 ok.dp rv
  have er' : EachIs (fun u (p : VD) => ∃ as, Reads (h'.push (seqObj "list" acc.toList.toArray 0)) u p.2 as ∧ h'.objs.size ∉ as) acc.toList bs :=
    er.mono fun u p ⟨as, h⟩ => ⟨as, PyProof.Rows.Reads.keeps (fun _ _ e => Heap.get?_push_of_some _ e) h, fun hm => absurd (reads_in h _ hm) (Nat.lt_irrefl _)⟩
  show wpAny _ _ _ _ _ { s with heap := h'.push (seqObj "list" acc.toList.toArray 0), toks := tk }
  refine wpAny_bind (wpAny_holding (PySem.W.list_sort_data (s := { s with heap := h'.push (seqObj "list" acc.toList.toArray 0), toks := tk }) (R := fun u (p : VD) => RelV p.1 u) (enc := Prod.snd) hoL (each_rel rv) er' ok.al ok.so hbs
    (fun p hp => by have := ok.dep p hp; show X.A.units + 1 + 1 + p.2.depth < cLine; omega) fun out hlen e => ?_))
  obtain ⟨e', he'⟩ := PyProof.Rows.sortedHeap_at (vs := acc.toList) (out := List.toArray out) hoL
  have hv : Vals (srt bs) out := rel_each e
  have hlen2 : (srt bs).length ≤ sizeLine := by rw [hv.length, hlen]; exact hbs
  refine wpAny_pure ⟨_, rfl, .ref h'.objs.size, upd H h'.objs.size (.lst (srt bs)), I1.laid (t' := tk) (fun b u e => ?_) (Nat.le_refl _) ⟨hlen2, out, e', hv, he'⟩, rfl, q _ (I1.hok.fresh (Nat.le_refl _))⟩
  have hb : b < h'.objs.size := Heap.lt_size e
  rw [PyProof.Rows.sortedHeap_old (Nat.ne_of_lt hb) (by rw [size_push']; exact Nat.lt_succ_of_lt hb)]
  exact Heap.get?_push_of_some _ e
end
end TW
set_option Elab.async false
set_option linter.all false
set_option maxRecDepth 100000
set_option maxHeartbeats 4000000
namespace TW
open PySem PySem.Spec PyProof.Rows L2

/-! ### a dict whose keys are nested tuples -/
section
variable {X : Cx} {pins : List (Addr × Obj)} {σ : L2.St} {H H' : Hp} {s : Shared}
mutual
theorem dp_nested (I : L2.Inv X pins σ H s) : ∀ (k : NestedKey) (v : V) (u : Value), Dp X.K H v k.data → RelV v u → NestedIs s.heap k u
  | .none, v, u, d, r => by
    rw [NestedKey.data] at d
    cases d
    cases r
    exact .none
  | .num i, v, u, d, r => by
    rw [NestedKey.data] at d
    cases d
    obtain ⟨t, rfl⟩ := r
    exact .int i t
  | .text x, v, u, d, r => by
    rw [NestedKey.data] at d
    cases d
    obtain ⟨t, rfl⟩ := r
    exact .text x t
  | .tup ks, v, u, d, r => by
    rw [NestedKey.data] at d
    cases d with
    | tup hs ha =>
      cases r
      obtain ⟨its, rv, ⟨o, ho, hc, n, hd⟩, _⟩ := I.tuple hs
      exact .tup ho hc hd (dp_nesteds I ks _ _ ha rv)
theorem dp_nesteds (I : L2.Inv X pins σ H s) : ∀ (ks : List NestedKey) (vs : List V) (us : List Value), DpAll X.K H vs (NestedKey.datas ks) → Vals vs us → NestedAll s.heap ks us
  | [], vs, us, d, r => by
    rw [NestedKey.datas] at d
    cases d
    cases r
    exact .nil
  | k :: ks, vs, us, d, r => by
    rw [NestedKey.datas] at d
    cases d with
    | cons h1 h2 =>
      cases r with
      | cons r1 r2 => exact .cons (dp_nested I k _ _ h1 r1) (dp_nesteds I ks _ _ h2 r2)
end
mutual
theorem Dp.ext {K : PySem.W.Frag} (e : Ext H H') : ∀ (d : PyData) (v : V), Dp K H v d → Dp K H' v d
  | .none, _, h => by cases h; exact .non
  | .bool b, _, h => by cases h; exact .bl b
  | .int i, _, h => by cases h; exact .int i
  | .str x, _, h => by cases h; exact .str x
  | .list ds, _, h => by
    cases h with
    | lst hs ha => exact .lst (hs.ext e) (DpAll.ext e ds _ ha)
  | .tuple ds, _, h => by
    cases h with
    | tup hs ha => exact .tup (hs.ext e) (DpAll.ext e ds _ ha)
  | .dict _, _, h => by cases h
theorem DpAll.ext {K : PySem.W.Frag} (e : Ext H H') : ∀ (ds : List PyData) (vs : List V), DpAll K H vs ds → DpAll K H' vs ds
  | [], _, h => by cases h; exact .nil
  | d :: ds, _, h => by
    cases h with
    | cons h1 h2 => exact .cons (Dp.ext e d _ h1) (DpAll.ext e ds _ h2)
end
end
abbrev NX := NestedKey × Addr × Value
def dnO (P : Program) (w : World) (d : Addr) (us : List NX) : HO :=
  .ext fun h => us.length ≤ sizeLine ∧ (d == sysModules) = false ∧ (us.map (·.1)).Nodup ∧ ∃ o es ep, h.get? d = some o ∧ o.ExactDict ∧ o.data = .dict es ep ∧ es.toList = us.map (entryOfKey (nestedKind P w))
theorem dnO_ok {P : Program} {w : World} {H : Hp} {h : Heap} {d : Addr} {us : List NX} : ObjOk P w H h d (dnO P w d us) ↔
    us.length ≤ sizeLine ∧ (d == sysModules) = false ∧ (us.map (·.1)).Nodup ∧ ∃ o es ep, h.get? d = some o ∧ o.ExactDict ∧ o.data = .dict es ep ∧ es.toList = us.map (entryOfKey (nestedKind P w)) := by
  constructor
  · rintro ⟨h1, _⟩
    exact h1
  · intro h1
    refine ⟨h1, let ⟨_, _, _, o, _, _, e, _⟩ := h1; ⟨o, e⟩, fun g1 g2 a b => ?_⟩
    obtain ⟨z1, z2, z3, o, es, ep, e, r⟩ := a
    exact ⟨z1, z2, z3, o, es, ep, b o e, r⟩
/-- at d the dict of these keys (each with its tuple's place) and values -/
structure DN (P : Program) (w : World) (K : PySem.W.Frag) (H : Hp) (d : Addr) (xs : List (NestedKey × Addr × V)) : Prop where
  ex : ∃ us : List NX, H d = some (dnO P w d us) ∧ Paired (fun p q => p.1 = q.1 ∧ p.2.1 = q.2.1 ∧ RelV p.2.2 q.2.2) xs us
  keys : ∀ p ∈ xs, Dp K H (.ref p.2.1) p.1.data ∧ p.1.depth ≤ 8
  len : xs.length ≤ sizeLine
theorem DN.ext {P : Program} {w : World} {K : PySem.W.Frag} {H H' : Hp} {d : Addr} {xs : List (NestedKey × Addr × V)} (x : DN P w K H d xs) (e : Ext H H') : DN P w K H' d xs :=
  ⟨let ⟨us, h, r⟩ := x.ex; ⟨us, e _ _ h, r⟩, fun p hp => ⟨Dp.ext e _ _ (x.keys p hp).1, (x.keys p hp).2⟩, x.len⟩
def putX (xs : List (NestedKey × Addr × V)) (k : NestedKey) (b : Addr) (v : V) : List (NestedKey × Addr × V) :=
  if (xs.any fun p => decide (p.1 = k)) = true then xs.map fun p => if p.1 = k then (p.1, p.2.1, v) else p else xs ++ [(k, b, v)]
section
variable {X : Cx} {pins : List (Addr × Obj)} {σ : L2.St} {H H' : Hp} {s : Shared} {d b : Addr} {xs : List (NestedKey × Addr × V)} {k : NestedKey} {v : V} {A : Around} {E : Value → Shared → Prop}
theorem any_at : ∀ {xs : List (NestedKey × Addr × V)} {us : List NX}, Paired (fun p q => p.1 = q.1 ∧ p.2.1 = q.2.1 ∧ RelV p.2.2 q.2.2) xs us → (xs.any fun p => decide (p.1 = k)) = (atKey us k).isSome
  | _, _, .nil => rfl
  | _, _, .cons (a := p) (b := q) (l₁ := ps) (l₂ := qs) h t => by
    have ih := any_at t
    rw [List.any_cons, ih]
    by_cases e : q.1 = k
    · rw [decide_eq_true (h.1.trans e)]
      simp [atKey, List.find?_cons, e]
    · rw [decide_eq_false (fun z => e (h.1.symm.trans z))]
      simp [atKey, List.find?_cons, e]
theorem repl_at {r : Value} (rv : RelV v r) : ∀ {xs : List (NestedKey × Addr × V)} {us : List NX}, Paired (fun p q => p.1 = q.1 ∧ p.2.1 = q.2.1 ∧ RelV p.2.2 q.2.2) xs us →
    Paired (fun (p : NestedKey × Addr × V) (q : NX) => p.1 = q.1 ∧ p.2.1 = q.2.1 ∧ RelV p.2.2 q.2.2) (xs.map fun p => if p.1 = k then (p.1, p.2.1, v) else p) (us.map (putAt k r))
  | _, _, .nil => .nil
  | _, _, .cons (a := p) (b := q) (l₁ := ps) (l₂ := qs) h t => by
    have ih := repl_at rv t
    rw [List.map_cons, List.map_cons]
    refine .cons ?_ ih
    unfold putAt
    by_cases e : q.1 = k
    · rw [if_pos e, if_pos (h.1.trans e)]
      exact ⟨h.1, h.2.1, rv⟩
    · rw [if_neg e, if_neg (fun z => e (h.1.symm.trans z))]
      exact h
theorem len_putX : (putX xs k b v).length ≤ xs.length + 1 := by
  unfold putX
  split
  · rw [List.length_map]
    omega
  · rw [List.length_append, List.length_singleton]
    omega
/-- the heap behind d[k] = v -/
def DNPut (P : Program) (w : World) (K : PySem.W.Frag) (H : Hp) (d : Addr) (y v : V) (H' : Hp) : Prop :=
  ∃ xs k b, y = .ref b ∧ DN P w K H d xs ∧ Dp K H (.ref b) k.data ∧ k.depth ≤ 8 ∧ (∃ ks, k = .tup ks) ∧ xs.length < sizeLine ∧ DN P w K H' d (putX xs k b v) ∧ ∃ o, H' = upd H d o
/-- what the keys lean on stays when a dict's object is replaced -/
theorem dp_upd {K : PySem.W.Frag} {o o' : HO} (hd : H d = some o) (ho : (∀ xs, o ≠ .lst xs) ∧ (∀ xs, o ≠ .tup xs) ∧ ∀ q u, o ≠ .frz q u) : ∀ (t : PyData) (v : V), Dp K H v t → Dp K (upd H d o') v t := by
  have hr : ∀ a u, (u = o → False) → Rd H a u → Rd (upd H d o') a u := fun a u nu r => by
    rcases r with r | ⟨q, r⟩
    · have ne : a ≠ d := fun z => by
        rw [z, hd] at r
        exact nu (Option.some.inj r).symm
      exact .inl (by rw [upd_ne ne]; exact r)
    · have ne : a ≠ d := fun z => by
        rw [z, hd] at r
        exact ho.2.2 _ _ (Option.some.inj r)
      exact .inr ⟨q, by rw [upd_ne ne]; exact r⟩
  have main : (∀ (t : PyData) (v : V), Dp K H v t → Dp K (upd H d o') v t) ∧ ∀ (ts : List PyData) (vs : List V), DpAll K H vs ts → DpAll K (upd H d o') vs ts := by
    constructor
    · intro t v h
      exact Dp.rec (motive_1 := fun v t _ => Dp K (upd H d o') v t) (motive_2 := fun vs ts _ => DpAll K (upd H d o') vs ts) .non .bl .int .str
        (fun hs _ ih => .lst (hs.elim (fun r => .inl (hr _ _ (fun z => ho.1 _ z.symm) r)) .inr) ih) (fun hs _ ih => .tup (hs.elim (fun r => .inl (hr _ _ (fun z => ho.2.1 _ z.symm) r)) .inr) ih) .nil (fun _ _ a b => .cons a b) h
    · intro ts vs h
      exact DpAll.rec (motive_1 := fun v t _ => Dp K (upd H d o') v t) (motive_2 := fun vs ts _ => DpAll K (upd H d o') vs ts) .non .bl .int .str
        (fun hs _ ih => .lst (hs.elim (fun r => .inl (hr _ _ (fun z => ho.1 _ z.symm) r)) .inr) ih) (fun hs _ ih => .tup (hs.elim (fun r => .inl (hr _ _ (fun z => ho.2.1 _ z.symm) r)) .inr) ih) .nil (fun _ _ a b => .cons a b) h
  exact main.1
theorem dn_heap (I : L2.Inv X pins σ H s) (x : DN X.prog X.w X.K H d xs) : ∃ us : List NX, H d = some (dnO X.prog X.w d us) ∧ Paired (fun (p : NestedKey × Addr × V) (q : NX) => p.1 = q.1 ∧ p.2.1 = q.2.1 ∧ RelV p.2.2 q.2.2) xs us ∧
    us.length ≤ sizeLine ∧ (d == sysModules) = false ∧ s.heap.DictOfH (nestedKind X.prog X.w) d us := by
  obtain ⟨us, h, r⟩ := x.ex
  obtain ⟨z1, z2, z3, o, es, ep, e1, e2, e3, e4⟩ := dnO_ok.mp (show ObjOk X.prog X.w H s.heap d (dnO X.prog X.w d us) from I.hok d _ h)
  refine ⟨us, h, r, z1, z2, o, es, ep, e1, e2, e3, e4, fun q hq => ?_, z3⟩
  have all : ∀ {l : List (NestedKey × Addr × V)} {m : List NX}, Paired (fun (p : NestedKey × Addr × V) (q : NX) => p.1 = q.1 ∧ p.2.1 = q.2.1 ∧ RelV p.2.2 q.2.2) l m → (∀ p ∈ l, Dp X.K H (.ref p.2.1) p.1.data ∧ p.1.depth ≤ 8) → ∀ q ∈ m, (nestedKind X.prog X.w).is s.heap q.1 q.2.1 := by
    intro l m r
    induction r with
    | nil => intro _ q hq; exact nomatch hq
    | @cons p q' ps qs hh t ih =>
      intro hk q hq
      rcases List.mem_cons.mp hq with e | hq
      · subst e
        obtain ⟨d1, d2⟩ := hk p List.mem_cons_self
        rw [← hh.1, ← hh.2.1]
        exact ⟨dp_nested I _ _ _ d1 rfl, d2⟩
      · exact ih (fun p hp => hk p (List.mem_cons_of_mem _ hp)) q hq
  exact all r x.keys q hq
/-- d[k] = v -/
theorem dn_set {Q : Unit → Shared → Prop} {u r : Value} {y : V} (hu : A.units + 64 < cLine) (I : L2.Inv X pins σ H s) (rb : RelV (.ref b) u) (rv : RelV v r) (x : DN X.prog X.w X.K H d xs) (hk : Dp X.K H (.ref b) k.data) (hd8 : k.depth ≤ 8) (hl : xs.length < sizeLine)
    (h : ∀ H' s', L2.Inv X pins σ H' s' → DN X.prog X.w X.K H' d (putX xs k b v) → (∃ o, H' = upd H d o) → Q () s') : wpAny (model X.prog X.w) A (setItem (.ref d) u r) Q E s := by
  cases rb
  obtain ⟨us, hd, rel, z, lo, dd⟩ := dn_heap I x
  refine wpAny_setItem_heap (knd := nestedKind X.prog X.w) (k := k) (hsz := z) (show A.in1.units + 8 < cLine by show A.units + 1 + 8 < cLine; omega) ⟨dp_nested I _ _ _ hk rfl, hd8⟩ dd fun h' dd' hs => ?_
  obtain ⟨q, es, ep, hq, h2, h3, h4, _, h5⟩ := dd'
  have hrel : Paired (fun (p : NestedKey × Addr × V) (q : NX) => p.1 = q.1 ∧ p.2.1 = q.2.1 ∧ RelV p.2.2 q.2.2) (putX xs k b v) (storedH us k b r) := by
    unfold putX storedH
    rw [any_at rel]
    by_cases e : (atKey us k).isSome = true
    · rw [if_pos e, if_pos e]
      exact repl_at rv rel
    · rw [if_neg e, if_neg e]
      exact Paired.snoc rel ⟨rfl, rfl, rv⟩
  have hlen : (storedH us k b r).length ≤ sizeLine := by
    rw [← Paired.length hrel]
    have := len_putX (xs := xs) (k := k) (b := b) (v := v)
    omega
  have dpu : ∀ (t : PyData) (v : V), Dp X.K H v t → Dp X.K (upd H d (dnO X.prog X.w d (storedH us k b r))) v t := dp_upd hd ⟨(fun _ z => nomatch z), (fun _ z => nomatch z), fun _ _ z => nomatch z⟩
  refine h (upd H d (dnO X.prog X.w d (storedH us k b r))) _ (d_write I (by rw [hd]; exact True.intro) hs ⟨q, hq⟩ (dnO_ok.mpr ⟨hlen, lo, h5, q, es, ep, hq, h2, h3, h4⟩)) ⟨⟨_, upd_same, hrel⟩, fun p hp => ?_, by rw [Paired.length hrel]; exact hlen⟩ ⟨_, rfl⟩
  unfold putX at hp
  split at hp
  · obtain ⟨p', hp', e⟩ := List.mem_map.mp hp
    split at e
    · rw [← e]
      exact ⟨dpu _ _ (x.keys p' hp').1, (x.keys p' hp').2⟩
    · rw [← e]
      exact ⟨dpu _ _ (x.keys p' hp').1, (x.keys p' hp').2⟩
  · rcases List.mem_append.mp hp with hp | hp
    · exact ⟨dpu _ _ (x.keys p hp).1, (x.keys p hp).2⟩
    · have e : p = (k, b, v) := by simpa using hp
      rw [e]
      exact ⟨dpu _ _ hk, hd8⟩
/-- the raw entries -/
theorem dn_raw (I : L2.Inv X pins σ H s) (x : DN X.prog X.w X.K H d xs) : ∃ es ep, (d == sysModules) = false ∧ s.heap.DictRaw d es ep ∧ es.size ≤ sizeLine ∧ es.size = xs.length ∧ Vals (xs.map fun p => V.ref p.2.1) (es.toList.map (·.key)) := by
  obtain ⟨us, hd, rel, z, lo, o, es, ep, e1, e2, e3, e4, _⟩ := dn_heap I x
  have hl : es.size = us.length := by rw [← Array.length_toList, e4, List.length_map]
  refine ⟨es, ep, lo, ⟨o, e1, e2, e3⟩, by omega, by rw [hl, Paired.length rel], ?_⟩
  rw [e4, List.map_map]
  have go : ∀ {l : List (NestedKey × Addr × V)} {m : List NX}, Paired (fun (p : NestedKey × Addr × V) (q : NX) => p.1 = q.1 ∧ p.2.1 = q.2.1 ∧ RelV p.2.2 q.2.2) l m → Vals (l.map fun p => V.ref p.2.1) (m.map ((·.key) ∘ entryOfKey (nestedKind X.prog X.w))) := by
    intro l m r
    induction r with
    | nil => exact .nil
    | @cons p q ps qs hh t ih =>
      refine .cons ?_ ih
      show Value.ref q.2.1 = Value.ref p.2.1
      rw [hh.2.1]
  exact go rel
end
/-- {} -/
def tDNewN (P : Program) (w : World) (K : PySem.W.Frag) : TE := fun _ H Q => ∀ p H', H p = none → DN P w K H' p [] → (∃ o, H' = upd H p o) → Q (.ref p) H'
theorem pe_dnewN {X : Cx} {pos : Pos} : PE X (.Dict [] [] pos) (tDNewN X.prog X.w X.K) := ⟨fun pins s σ H Q I h => by
  have hn := I.hok.fresh (Nat.le_refl s.heap.objs.size)
  refine wpAny_Dict_empty ⟨.ref s.heap.objs.size, upd H s.heap.objs.size (dnO X.prog X.w s.heap.objs.size []), I.laid (t' := s.toks) (fun _ _ q => Heap.get?_push_of_some _ q) (Nat.le_refl _) (dnO_ok.mpr ⟨Nat.zero_le _, beq_eq_false_iff_ne.mpr (Ne.symm (Nat.ne_of_lt I.big)), List.nodup_nil, _, #[], 0, Heap.get?_push_size _ rfl, ⟨rfl, rfl, rfl⟩, rfl, rfl⟩), rfl,
    h _ _ hn ⟨⟨[], upd_same, .nil⟩, (fun _ hp => nomatch hp), Nat.zero_le _⟩ ⟨_, rfl⟩⟩⟩
/-- {} of the kind that one wants -/
theorem PE.or {X : Cx} {e : Expr} {t u : TE} (h1 : PE X e t) (h2 : PE X e u) : PE X e (fun σ H Q => t σ H Q ∨ u σ H Q) := ⟨fun pins s σ H Q I h => h.elim (h1.run pins s σ H Q I) (h2.run pins s σ H Q I)⟩

/-! ### d[y] = v of any of the kinds -/
def sDPutA (P : Program) (w : World) (K : PySem.W.Frag) (td ty tv : TE) : TS := fun D σ H => tv σ H fun v H1 => td σ H1 fun x H2 => ty σ H2 fun y H3 => ∃ a, x = .ref a ∧
  ((∃ H4, DPut H3 a y v H4 ∧ D.nx σ H4) ∨ ∃ xs k b, y = .ref b ∧ DN P w K H3 a xs ∧ Dp K H3 (.ref b) k.data ∧ k.depth ≤ 8 ∧ xs.length < sizeLine ∧ ∀ H4, DN P w K H4 a (putX xs k b v) → (∃ o, H4 = upd H3 a o) → D.nx σ H4)
theorem ps_dputA {X : Cx} {o i value : Expr} {pos pos' : Pos} {td ty tv : TE} (hu : X.A.units + 64 < cLine) (ho : PE X o td) (hi : PE X i ty) (hv : PE X value tv) (hs : swapsWith value (some (.Subscript o i pos')) pos.line X.env = pure false) :
    PS X (.Assign [.Subscript o i pos'] value pos) (sDPutA X.prog X.w X.K td ty tv) := by
  refine ⟨fun pins s σ H D I h => ?_⟩
  refine wpAny_Assign_Subscript (thn (hv.run pins s σ H _ I h) fun r s1 ⟨v, H1, I1, rv, q1⟩ => thn (ho.run pins s1 σ H1 _ I1 q1) fun u s2 ⟨x, H2, I2, rx, q2⟩ => thn (hi.run pins s2 σ H2 _ I2 q2) fun iv s3 ⟨y, H3, I3, ry, a, ex, q3⟩ => ?_) hs
  subst ex
  obtain rfl : u = Value.ref a := rx
  rcases q3 with ⟨H4, g, q3⟩ | ⟨xs, k, b, ey, x, hk, h8, hl, q3⟩
  · exact d_setItem (by omega) I3 g ry rv fun s4 I4 => ⟨σ, H4, I4, q3⟩
  · subst ey
    exact dn_set (y := .ref b) (by omega) I3 ry rv x hk h8 hl fun H4 s4 I4 x4 o4 => ⟨σ, H4, I4, q3 H4 x4 o4⟩

/-! ### list(d), sorted(d) over any dict -/
/-- at a dict d stand the keys ks (values that stand for data ds) -/
inductive KeysAt (P : Program) (w : World) (K : PySem.W.Frag) (H : Hp) (d : Addr) : List VD → Prop
  | k {kvs : List (Key × V)} {f : Key → PyData} : Rd H d (.dK kvs) → (∀ k, f k = match k with | .inl i => .int i | .inr x => .str x) → KeysAt P w K H d (kvs.map fun p => (kV p.1, f p.1))
  | n {xs : List (NestedKey × Addr × V)} : DN P w K H d xs → KeysAt P w K H d (xs.map fun p => (V.ref p.2.1, p.1.data))
section
variable {X : Cx} {pins : List (Addr × Obj)} {σ : L2.St} {H H' : Hp} {s : Shared} {d : Addr} {bs : List VD}
theorem KeysAt.raw (I : L2.Inv X pins σ H s) (x : KeysAt X.prog X.w X.K H d bs) : ∃ es ep, (d == sysModules) = false ∧ s.heap.DictRaw d es ep ∧ es.size ≤ sizeLine ∧ es.size = bs.length ∧ Vals (bs.map Prod.fst) (es.toList.map (·.key)) ∧ ∀ p ∈ bs, Dp X.K H p.1 p.2 := by
  cases x with
  | @k kvs f hr hf =>
    obtain ⟨z, lo, vs, rel, dd⟩ := dk_rd I.hok hr
    obtain ⟨es, ep, raw, hsz, he⟩ := dd.raw
    have hl : kvs.length = vs.length := Paired.length rel
    refine ⟨es, ep, lo, raw, by omega, by rw [List.length_map]; omega, ?_, fun p hp => ?_⟩
    · rw [List.map_map]
      have go : ∀ {us : List Value} {l : List (Key × V)}, us.length = l.length → (∀ (j : Nat) (u : Value) (p : Key × V), us[j]? = some u → l[j]? = some p → RelV (kV p.1) u) → Vals (l.map (Prod.fst ∘ fun p => (kV p.1, f p.1))) us := by
        intro us
        induction us with
        | nil =>
          intro l hl _
          cases l with
          | nil => exact .nil
          | cons _ _ => simp at hl
        | cons u us ih =>
          intro l hl h
          cases l with
          | nil => simp at hl
          | cons p l =>
            refine .cons (h 0 u p rfl rfl) (ih (by simpa using hl) fun j u' p' e1 e2 => h (j + 1) u' p' (by simpa using e1) (by simpa using e2))
      refine go (by rw [List.length_map, Array.length_toList]; omega) fun j u p e1 e2 => ?_
      rw [List.getElem?_map, Array.getElem?_toList] at e1
      cases e3 : es[j]? with
      | none => rw [e3] at e1; exact nomatch e1
      | some en =>
        rw [e3] at e1
        have e4 : en.key = u := Option.some.inj e1
        obtain ⟨hj, e5⟩ := Array.getElem?_eq_some_iff.mp e3
        obtain ⟨u2, hu2, _⟩ := kv_get rel (i := j) (k := p.1) (v := p.2) e2
        have q := (he j hj _ _ hu2).1
        rw [e5, e4] at q
        exact relV_key (show keyIs p.1 u = true from q)
    · obtain ⟨q, _, e⟩ := List.mem_map.mp hp
      rw [← e]
      show Dp X.K H (kV q.1) (f q.1)
      rw [hf]
      cases q.1 with
      | inl i => exact .int i
      | inr x => exact .str x
  | @n xs hd =>
    obtain ⟨es, ep, lo, raw, hz, hl, rv⟩ := dn_raw I hd
    refine ⟨es, ep, lo, raw, hz, by rw [List.length_map]; exact hl, by rw [List.map_map]; exact rv, fun p hp => ?_⟩
    obtain ⟨q, hq, e⟩ := List.mem_map.mp hp
    rw [← e]
    exact (hd.keys q hq).1
def rListK (P : Program) (w : World) (K : PySem.W.Frag) : List V → Hp → VK → Prop := fun vs H Q => ∃ a bs, vs = [V.ref a] ∧ KeysAt P w K H a bs ∧ ∀ p, H p = none → Q (.ref p) (upd H p (.lst (bs.map Prod.fst)))
theorem call_listK (hc : X.calm = true) : CallR X (.type "list") (rListK X.prog X.w X.K) := by
  intro pins s σ H xs us Q I r h
  obtain ⟨a, bs, rfl, hk, q⟩ := h
  rw [Vals.ref1 r]
  obtain ⟨es, ep, lo, raw, hz, hl, rv, _⟩ := hk.raw I
  refine PySem.W.kdl_call (KdlSrc.rawDict (es := es) (ep := ep) lo) (I.ok.hd hc) raw hz fun h' tk acc' c' kp e it => ?_
  have ea : acc'.toList = es.toList.map (·.key) := by
    have hl2 : acc'.toList.length = es.size := by rw [Array.length_toList]; exact it.1
    apply List.ext_getElem?
    intro j
    rw [List.getElem?_map]
    cases hj : acc'.toList[j]? with
    | none =>
      have h1 := List.getElem?_eq_none_iff.mp hj
      rw [List.getElem?_eq_none (by rw [Array.length_toList]; omega)]
      all_goals rfl
    | some v =>
      obtain ⟨hi, hv⟩ := it.2 j v (by rw [← Array.getElem?_toList]; exact hj)
      rw [Array.getElem?_toList, Array.getElem?_eq_getElem hi, hv]
      all_goals rfl
  rw [← ea] at rv
  refine ⟨.ref s.heap.objs.size, _, I.laid (t' := tk) (o := .lst (bs.map Prod.fst)) kp (Nat.le_refl _) ?_, rfl, q _ (I.hok.fresh (Nat.le_refl _))⟩
  exact ⟨by rw [List.length_map]; omega, acc'.toList, c', rv, by rw [Array.toArray_toList]; exact e⟩
def rSortK (P : Program) (w : World) (K : PySem.W.Frag) : List V → Hp → VK → Prop := fun vs H Q => ∃ a bs, vs = [V.ref a] ∧ KeysAt P w K H a bs ∧ PySem.W.AllAlike (bs.map Prod.snd) ∧ PySem.W.Sortable (bs.map Prod.snd) ∧ (∀ p ∈ bs, p.2.depth ≤ 40) ∧ ∀ p, H p = none → Q (.ref p) (upd H p (.lst (srt bs)))
end
end TW
set_option Elab.async false
set_option linter.all false
set_option maxRecDepth 100000
set_option maxHeartbeats 4000000
namespace TW
open PySem PySem.Spec PyProof.Rows L2

/-! ### sorted over dicts -/
section
variable {X : Cx} {pins : List (Addr × Obj)} {σ : L2.St} {H H' : Hp} {s : Shared} {d : Addr} {bs : List VD}
theorem cr_sortK (hc : X.calm = true) (hu : X.A.units + 64 < cLine) : CallR X (.builtin "sorted") (rSortK X.prog X.w X.K) := by
  intro pins s σ H xs us Q I r h
  obtain ⟨a, bs, rfl, hk, h1, h2, h3, q⟩ := h
  rw [Vals.ref1 r]
  obtain ⟨es, ep, lo, raw, hz, hl, rv, dp⟩ := hk.raw I
  exact sort_raw hc hu I lo raw hz rv ⟨dp, h1, h2, h3⟩ q
def kdata : Key → PyData
  | .inl i => .int i
  | .inr x => .str x
theorem dp_kV {K : PySem.W.Frag} {H : Hp} (k : Key) : Dp K H (kV k) (kdata k) := by
  cases k with
  | inl i => exact .int i
  | inr x => exact .str x
theorem dps_kV {K : PySem.W.Frag} {H : Hp} : ∀ ks : List Key, DpAll K H (ks.map kV) (ks.map kdata)
  | [] => .nil
  | k :: ks => .cons (dp_kV k) (dps_kV ks)
def tdata (ks : List Key) : PyData := .tuple (ks.map kdata)
theorem dp_tup {K : PySem.W.Frag} {H : Hp} {a : Addr} {ks : List Key} (h : H a = some (.tup (ks.map kV))) : Dp K H (.ref a) (tdata ks) := .tup (SqT.of h) (dps_kV ks)
def keyVD (kvs : List (List Key × V)) (as : List Addr) : List VD := (kvs.zip as).map fun q => (V.ref q.2, tdata q.1.1)
def rSortT (K : PySem.W.Frag) : List V → Hp → VK → Prop := fun vs H Q => ∃ a kvs, vs = [V.ref a] ∧ Rd H a (.dT kvs) ∧ PySem.W.AllAlike (kvs.map fun p => tdata p.1) ∧ PySem.W.Sortable (kvs.map fun p => tdata p.1) ∧ (∀ p ∈ kvs, (tdata p.1).depth ≤ 40) ∧
  ∀ p as, H p = none → IsKeys H kvs as → Q (.ref p) (upd H p (.lst (srt (keyVD kvs as))))
theorem isKeys_vd {H : Hp} {K : PySem.W.Frag} : ∀ {kvs : List (List Key × V)} {as : List Addr}, IsKeys H kvs as → (keyVD kvs as).map Prod.fst = as.map V.ref ∧ (keyVD kvs as).map Prod.snd = (kvs.map fun p => tdata p.1) ∧ (∀ p ∈ keyVD kvs as, Dp K H p.1 p.2 ∧ ∃ q ∈ kvs, p.2 = tdata q.1) ∧ (keyVD kvs as).length = kvs.length
  | _, _, .nil => ⟨rfl, rfl, (fun _ h => nomatch h), rfl⟩
  | _, _, .cons (a := p) (b := b) (l₁ := ps) (l₂ := bs) h t => by
    obtain ⟨h1, h2, h3, h4⟩ := isKeys_vd (K := K) t
    refine ⟨?_, ?_, fun q hq => ?_, ?_⟩
    · show V.ref b :: (keyVD ps bs).map Prod.fst = V.ref b :: bs.map V.ref
      rw [h1]
    · show tdata p.1 :: (keyVD ps bs).map Prod.snd = tdata p.1 :: (ps.map fun p => tdata p.1)
      rw [h2]
    · rcases List.mem_cons.mp (show q ∈ (V.ref b, tdata p.1) :: keyVD ps bs from hq) with e | hq
      · rw [e]
        exact ⟨dp_tup h, p, List.mem_cons_self, rfl⟩
      · obtain ⟨a1, z, a2, a3⟩ := h3 q hq
        exact ⟨a1, z, List.mem_cons_of_mem _ a2, a3⟩
    · show (keyVD ps bs).length + 1 = ps.length + 1
      rw [h4]
theorem cr_sortT (hc : X.calm = true) (hu : X.A.units + 64 < cLine) : CallR X (.builtin "sorted") (rSortT X.K) := by
  intro pins s σ H xs us Q I r h
  obtain ⟨a, kvs, rfl, hd, h1, h2, h3, q⟩ := h
  rw [Vals.ref1 r]
  obtain ⟨z, hs, ks, pr, o, es, ep, ho, hx, hdt, he, hn⟩ := (show ObjOk X.prog X.w H s.heap a (.dT kvs) from hd.ok I.hok)
  have hk := isKeys_of pr
  obtain ⟨k1, k2, k3, k4⟩ := isKeys_vd (K := X.K) hk
  have l1 : es.size = ks.length := size_of_entries he
  have l2 : kvs.length = ks.length := Paired.length pr
  refine sort_raw (bs := keyVD kvs (ks.map fun x => x.2.1)) hc hu I hs ⟨o, ho, hx, hdt⟩ (by omega) ?_ ⟨fun p hp => (k3 p hp).1, by rw [k2]; exact h1, by rw [k2]; exact h2, fun p hp => ?_⟩ fun p hp => q p _ hp hk
  · rw [k1, he, List.map_map, List.map_map]
    have go : ∀ l : List (List Key × Addr × Value), Vals (l.map (V.ref ∘ fun x => x.2.1)) (l.map ((·.key) ∘ entryOfKey (tupleKind (mixKind X.prog X.w)))) := by
      intro l
      induction l with
      | nil => exact .nil
      | cons x l ih => exact .cons rfl ih
    exact go ks
  · obtain ⟨_, z, hz, e⟩ := k3 p hp
    rw [e]
    exact h3 z hz
end

/-! ### d.setdefault(k, x), tuple keys -/
def tDSetT (td ty tx : TE) : TE := fun σ H Q => td σ H fun x H1 => ∃ a, x = .ref a ∧ IsD H1 a ∧ ty σ H1 fun y H2 => tx σ H2 fun z H3 => ∃ (kvs : List (List Key × V)) (k : List Key) (b : Addr), y = .ref b ∧ H3 a = some (.dT kvs) ∧ H3 b = some (.tup (k.map kV)) ∧ kvs.length < sizeLine ∧
  (∀ v, valV kvs k = some v → Q v H3) ∧ (valV kvs k = none → Q z (upd H3 a (.dT (putK kvs k z))))
theorem pe_dsetT {X : Cx} {o e f : Expr} {td ty tx : TE} {apos cpos : Pos} (hu : X.A.units + 1 < cLine) (ho : PE X o td) (he : PE X e ty) (hf : PE X f tx) (m : M2 X o "setdefault" apos e f cpos) : PE X (.Call (.Attribute o "setdefault" apos) [e, f] [] cpos) (tDSetT td ty tx) := by
  refine ⟨fun pins s σ H Q I h => ?_⟩
  refine wpAny_Call_method m.base m.few m.line PySem.F.plainAttrs_dict PySem.F.slot_dict_setdefault PySem.F.type_dict_setdefault (thn (ho.run pins s σ H _ I h) fun u s1 ⟨x, H1, I1, rx, a, ex, d, q1⟩ => ?_)
  subst ex
  obtain rfl : u = Value.ref a := rx
  obtain ⟨t1, t2, _⟩ := isD_at I1 d
  refine ⟨t1, t2, ?_⟩
  rw [m.trees]
  refine Calls.callWith_builtin rfl (Calls.evalArgs_plain (Calls.spliced_cons (thn (he.run pins s1 σ H1 _ I1 q1) fun iv s2 ⟨y, H2, I2, ry, q2⟩ =>
    Calls.spliced_cons (thn (hf.run pins s2 σ H2 _ I2 q2) fun fv s3 ⟨z, H3, I3, rz, kvs, k, b, ey, ea, eb, hl, q3, q4⟩ => Calls.spliced_nil ?_))))
  subst ey
  cases (show iv = Value.ref b from ry)
  obtain ⟨zl, hd, xs, rel, dd⟩ := dt_of I3.hok ea
  have hz : xs.length ≤ sizeLine := by rw [← Paired.length rel]; exact zl
  refine call_setdefault_heap (hsz := hz) (tupleKind_room_in1 hu) (key_of I3.hok eb) hd dd (fun p hp => ?_) fun hn h' dd' hs => ?_
  · have rk := rel.val k
    rw [hp] at rk
    cases hv : valV kvs k with
    | none => rw [hv] at rk; exact (show False from rk).elim
    | some v =>
      rw [hv] at rk
      exact ⟨v, H3, I3.tok _, rk, q3 v hv⟩
  · have rk := rel.val k
    rw [hn] at rk
    have hv : valV kvs k = none := by
      cases hv : valV kvs k with
      | none => rfl
      | some v => rw [hv] at rk; exact (show False from rk).elim
    have hl2 : (putK kvs k z).length ≤ sizeLine := by have := length_putK kvs k z; omega
    obtain ⟨qo, es, ep, hq, h2, h3, h4, _, h5⟩ := dd'
    refine ⟨z, upd H3 a (.dT (putK kvs k z)), d_write (ob := .dT (putK kvs k z)) I3 (by rw [ea]; exact True.intro) hs ⟨qo, hq⟩ ⟨hl2, hd, _, (rel.put k eb rz).keeps fun c ys ec => ?_, qo, es, ep, hq, h2, h3, h4, h5⟩, rz, q4 hv⟩
    rw [upd_ne (ne_of ec ea (fun z => nomatch z))]
    exact ec

/-! ### for k, v in d.items(), tuple keys -/
theorem frzT2 {X : Cx} {pins : List (Addr × Obj)} {σ : L2.St} {H : Hp} {s : Shared} {d : Addr} {o : Obj} {kvs : List (List Key × V)} (I : L2.Inv X pins σ H s) (h : H d = some (.frz o (.dT kvs))) :
    (d == sysModules) = false ∧ s.heap.get? d = some o ∧ o.ExactDict ∧ ∃ (es : Array DictEntry) (ep : Nat), o.data = .dict es ep ∧ es.size = kvs.length ∧
      ∀ (i : Nat) (k : List Key) (v : V), kvs[i]? = some (k, v) → ∃ (en : DictEntry) (q : Addr), es[i]? = some en ∧ en.key = .ref q ∧ H q = some (.tup (k.map kV)) ∧ RelV v en.val := by
  obtain ⟨hd, z, hs, xs, pr, o', es, ep, ho, hx, hdt, he, _⟩ := I.hok d _ h
  rw [hd] at ho
  cases ho
  refine ⟨hs, hd, hx, es, ep, hdt, ?_, fun i k v e => ?_⟩
  · have l1 : es.size = xs.length := size_of_entries he
    have l2 : kvs.length = xs.length := Paired.length pr
    omega
  · obtain ⟨b, hb, e1, e2, e3⟩ := paired_get pr e
    have q := entry_at he i
    rw [hb] at q
    exact ⟨_, b.2.1, q, rfl, e2, e3⟩
/-- the pairs, each a new tuple -/
def ItiT (d : Addr) (o : Obj) (kvs : List (List Key × V)) : It :=
  ⟨fun i H => H d = some (.frz o (.dT kvs)) ∧ i < kvs.length, fun i H x H' => ∃ T b k v, kvs[i]? = some (k, v) ∧ x = .ref T ∧ H T = none ∧ H b = some (.tup (k.map kV)) ∧ H' = upd H T (.tup [.ref b, v]), fun i H => H d = some (.frz o (.dT kvs)) ∧ kvs.length ≤ i⟩
theorem turn_itemsT {P : Program} {w : World} {K : PySem.W.Frag} {d : Addr} {o : Obj} {es : Array DictEntry} {ep : Nat} {kvs : List (List Key × V)} {elts : List Expr} {kk : Nat} {tpos : Pos} (it : Addr) (hod : o.data = .dict es ep) :
    Turn P w K (.Tuple elts kk tpos) (ItiT d o kvs) [it] it (fun i h => ∃ ok ov, IsItemIter h it d i kvs.length ep ok ov) where
  mem := by simp
  obj := fun i h st b hb => by
    have e : b = it := by simpa using hb
    subst e
    obtain ⟨ok, ov, e⟩ := st
    exact ⟨_, e, fun v z => nomatch z⟩
  keep := fun i h h' st k => let ⟨ok, ov, e⟩ := st; ⟨ok, ov, k it (by simp) _ e⟩
  item := by
    intro X hP hw hK hc i pins s σ H E I hf st hg
    subst hP hw hK
    obtain ⟨hd, hi⟩ := hg
    obtain ⟨hs, hgd, hx, es', ep', hdt, hsz, ent⟩ := frzT2 I hd
    obtain ⟨rfl, rfl⟩ := dict_ep hod hdt
    obtain ⟨⟨k, v⟩, hkv⟩ : ∃ p, kvs[i]? = some p := ⟨kvs[i], List.getElem?_eq_getElem hi⟩
    obtain ⟨en, q, hen, hkey, hq, hv⟩ := ent i k v hkv
    obtain ⟨hlt, hen2⟩ := Array.getElem?_eq_some_iff.mp hen
    obtain ⟨ok, ov, he⟩ := st
    rw [← hsz] at he
    have hil : it < s.heap.objs.size := Heap.lt_size he
    refine wpAny_pyNext_items_item_raw he ⟨o, hgd, hx, hod⟩ hlt fun h' ho hT hz hk => ?_
    refine ⟨_, rfl, wpAny_letOwnedTupleGo_items (s := { s with heap := h' }) ho fun h'' he' sb => ?_⟩
    rw [hen2] at he' hT
    have hT2 : h''.get? s.heap.objs.size = some { cls := .type "tuple", data := .seq #[en.key, en.val] } := (sb.2 _ (Nat.ne_of_gt hil)).trans hT
    have new : ObjOk X.prog X.w (upd H s.heap.objs.size (.tup [.ref q, v])) h'' s.heap.objs.size (.tup [.ref q, v]) :=
      ⟨by show 2 ≤ sizeLine; decide, [en.key, en.val], .cons hkey (.cons hv .nil), ⟨_, hT2, rfl, _, rfl⟩⟩
    have I1 : L2.Inv X pins σ (upd H s.heap.objs.size (.tup [.ref q, v])) { s with heap := h'' } :=
      I.turnedNew (t' := s.toks) (ch := [it]) (fun b ob hb e => (sb.2 b (by simpa using hb)).trans (hk b ob (by simpa using hb) e)) hf (Nat.le_refl _) new
    refine ⟨.ref s.heap.objs.size, _, I1, rfl, ⟨_, q, k, v, hkv, rfl, I.hok.fresh (Nat.le_refl _), hq, rfl⟩, ⟨en.key, en.val, ?_⟩, fun b hb => ?_⟩
    · rw [← hsz]; exact he'
    · have e : b = it := by simpa using hb
      rw [e, upd_ne (Nat.ne_of_lt hil)]
      exact (hf it (by simp)).1
  done := by
    intro X hP hw hK hc i pins s σ H E I hf st hg
    subst hP hw hK
    obtain ⟨hd, hi⟩ := hg
    obtain ⟨f0, f1, f2, f3, f4, f5⟩ := hf it (by simp)
    obtain ⟨hs, hgd, hx, es', ep', hdt, hsz, ent⟩ := frzT2 I hd
    obtain ⟨rfl, rfl⟩ := dict_ep hod hdt
    obtain ⟨ok, ov, he⟩ := st
    rw [← hsz] at he
    exact wpAny_pyNext_items_end_raw (I.ok.hd hc) he ⟨o, hgd, hx, hod⟩ (by omega) fun h' eb => ⟨rfl, I.turned (t' := s.toks) (fun b ob hb e => eb b ob hb e) f0 f1 f3 f4 f5⟩
  self := fun A i s Q E st h => let ⟨_, _, e⟩ := st; PySem.W.kcp_self e h
def iItemsT (td : TE) : TI := fun σ H R => td σ H fun x H1 => ∃ d o kvs, x = .ref d ∧ H1 d = some (.frz o (.dT kvs)) ∧ R (ItiT d o kvs) H1
theorem pi_itemsT {X : Cx} {e : Expr} {td : TE} {apos cpos : Pos} {elts : List Expr} {kk : Nat} {tpos : Pos} (he : PE X e td) (hbase : attributeBase e "items" X.env (eval e X.env) = eval e X.env := by rfl) (hline : (apos.endLine == cpos.line) = true := by rfl) :
    PI X (.Tuple elts kk tpos) (.Call (.Attribute e "items" apos) [] [] cpos) (iItemsT td) := by
  refine ⟨fun pins s σ H R I h => ?_⟩
  refine wpAny_Call_method (T := "dict") (id := "dict.items") hbase rfl hline F.plainAttrs_dict F.slot_dict_items F.type_dict_items (thn (he.run pins s σ H _ I h) fun u s1 ⟨x, H1, I1, rx, d, o, kvs, ex, hd, q⟩ => ?_)
  subst ex
  obtain rfl : u = Value.ref d := rx
  obtain ⟨hs, hgd, hx, es, ep, hdt, hsz, ent⟩ := frzT2 I1 hd
  have raw : s1.heap.DictRaw d es ep := ⟨o, hgd, hx, hdt⟩
  refine ⟨raw.typeIs, (fun b e => by cases e; exact ⟨o, hgd, hx.2.1⟩), ?_⟩
  have I2 : L2.Inv X pins σ H1 { s1 with heap := s1.heap.push { cls := .type "dict_items", data := .fields #[.ref d] } } := I1.kept (t' := s1.toks) fun b ob q => Heap.get?_push_of_some _ q
  have fin : wpAny (model X.prog X.w) X.A (pyIter (.ref s1.heap.objs.size)) (PIE X pins σ (.Tuple elts kk tpos) R) X.xe { s1 with heap := s1.heap.push { cls := .type "dict_items", data := .fields #[.ref d] } } := by
    refine wpAny_pyIter_items_raw (d := d) (es := es) (ep := ep) ⟨_, Heap.get?_push_size _ rfl, rfl, rfl⟩ (raw.at fun _ e => Heap.get?_push_of_some _ e) (pi_one (tk := s1.toks) I2 _ (turn_itemsT _ hdt) ⟨.none, .none, ?_⟩ q)
    rw [← hsz]
    exact Heap.get?_push_size _ rfl
  show wpAny _ _ (callWith cpos (.builtin "dict.items") [.ref d] [] []) _ X.xe s1
  exact method_meetsIn F.slot_dict_items F.entry_dict_items rfl (PySem.evalArgs_none ⟨rfl, raw.typeIs, F.args_dict_items_1 _, _, meets_dict_items_raw d hs, ⟨es, ep, raw⟩, fin⟩)
end TW
set_option Elab.async false
set_option linter.all false
set_option maxRecDepth 100000
set_option maxHeartbeats 4000000
namespace TW
open PySem PySem.Spec PyProof.Rows L2
section
open PySem.SeqAt
open AutoSeq1 (wpAny_loadPart')
open MeetsSeq MeetsSeq2 MeetsSeq3 SeqRoads2
variable {prog : Program} {w : World} {A : Around} {R : Result → Shared → Prop} {E : Value → Shared → Prop}
/-- at each turn the two lists are read anew, and the i-th two compared -/
def LisB (prog : Program) (w : World) (A : Around) (E : Value → Shared → Prop) (l b : Addr) (N : Nat) (bs : Nat → Bool) (I : Shared → Prop) : Prop :=
  ∀ s, I s → ∃ (items items2 : Array Value) (n n2 : Nat), s.heap.get? l = some { cls := .type "list", data := .seq items n } ∧ s.heap.get? b = some { cls := .type "list", data := .seq items2 n2 } ∧ items.size = N ∧ items2.size = N ∧
    ∀ i (h1 : i < items.size) (h2 : i < items2.size), wpAny (model prog w) A.in1 (eqBool items[i] items2[i]) (fun r s' => r = bs i ∧ I s') E s
def ansB (bs : Nat → Bool) (N i : Nat) : Bool := ((List.range N).drop i).all bs
theorem ansB_end {bs : Nat → Bool} {N i : Nat} (h : N ≤ i) : ansB bs N i = true := by
  unfold ansB
  rw [List.drop_of_length_le (by simpa using h)]
  rfl
theorem ansB_at {bs : Nat → Bool} {N i : Nat} (h : i < N) : ansB bs N i = (bs i && ansB bs N (i + 1)) := by
  unfold ansB
  rw [show (List.range N).drop i = i :: (List.range N).drop (i + 1) by simp [List.drop_eq_getElem_cons, h], List.all_cons]
theorem eq_loopB (l b : Addr) (N : Nat) (bs : Nat → Bool) (I : Shared → Prop) (hl : LisB prog w A (fun e s' => R (.error e) s') l b N bs I)
    (k : Nat) : ∀ i : Nat, N - i = k → i ≤ N → (∀ s, I s → R (.ok (.ret (.bool (ansB bs N i)))) s) → ∀ s, I s →
      wpAny (model prog w) A.in1 (Builtin.«list.__eq__.loop» ⟨[.ref l, .ref b, rawInt i, rawInt 2], []⟩) (GQ.FinOf prog w A R) (fun e s' => R (.error e) s') s := by
  induction k with
  | zero =>
    intro i hk hi fin s h
    obtain ⟨items, items2, n, n2, hl1, hb1, hs1, hs2, _⟩ := hl _ h
    have hR := fin s h
    rw [ansB_end (by omega)] at hR
    obtain ⟨hp, g, d, tk, os⟩ := s
    wp_walk using wpAny_loadPart' hl1, wpAny_loadPart' hb1
    have hi1 : items[((i : Nat) : Int).toNat]? = none := by simp; omega
    have hi2 : items2[((i : Nat) : Int).toNat]? = none := by simp; omega
    rw [hi1, hi2]
    wp_walk using wpAny_loadPart' hl1, wpAny_loadPart' hb1
    show R (.ok (.ret (.bool (items.size == items2.size)))) _
    rw [hs1, hs2]
    simpa using hR
  | succ k ih =>
    intro i hk hi fin s h
    obtain ⟨items, items2, n, n2, hl1, hb1, hs1, hs2, turn⟩ := hl _ h
    have hlt : i < items.size := by omega
    have hlt2 : i < items2.size := by omega
    have ht := turn i hlt hlt2
    obtain ⟨hp, g, d, tk, os⟩ := s
    wp_walk using wpAny_loadPart' hl1, wpAny_loadPart' hb1
    have hi1 : items[((i : Nat) : Int).toNat]? = some items[i] := by simp [hlt]
    have hi2 : items2[((i : Nat) : Int).toNat]? = some items2[i] := by simp [hlt2]
    have hc : ((i : Int) + 1) = ((i + 1 : Nat) : Int) := by omega
    rw [hi1, hi2]
    refine wpAny_bind (wpAny_mono ht (fun r s2 h2 => ?_) fun _ _ x => x)
    obtain ⟨hr, h2⟩ := h2
    cases r with
    | true =>
      have hrec := ih (i + 1) (by omega) (by omega) (fun s3 h3 => by
        have z := fin s3 h3
        rw [ansB_at (by omega), ← hr, Bool.true_and] at z
        exact z) s2 h2
      obtain ⟨hp2, g2, d2, tk2, os2⟩ := s2
      wp_walk
      rw [hc]
      exact ⟨plainId_quiet plain_eq_loop _, codeAny_builtin entry_eq_loop (by
        rw [Around.under_plainId plain_eq_loop _]
        exact hrec)⟩
    | false =>
      have hR := fin s2 h2
      rw [ansB_at (by omega), ← hr, Bool.false_and] at hR
      obtain ⟨items', items2', n', n2', hl', hb', hs1', hs2', _⟩ := hl _ h2
      have hi1' : items'[((i : Nat) : Int).toNat]? = some (items'[i]'(by omega)) := by simp
      have hi2' : items2'[((i : Nat) : Int).toNat]? = some (items2'[i]'(by omega)) := by simp
      obtain ⟨hp2, g2, d2, tk2, os2⟩ := s2
      wp_walk using wpAny_loadPart' hl', wpAny_loadPart' hb'
      rw [hi1', hi2']
      wp_walk
      simpa using hR
theorem list_eqB (l b : Addr) (N : Nat) (bs : Nat → Bool) (I : Shared → Prop) (hl : LisB prog w A (fun e s' => R (.error e) s') l b N bs I)
    (fin : ∀ s, I s → R (.ok (.ret (.bool (ansB bs N 0)))) s) {s : Shared} (h : I s) :
    wpAny (model prog w) A.in1 (Builtin.«list.__eq__» ⟨[.ref l, .ref b], []⟩) (GQ.FinOf prog w A R) (fun e s' => R (.error e) s') s := by
  obtain ⟨items, items2, n, n2, hl1, hb1, hs1, hs2, _⟩ := hl _ h
  have hrec := eq_loopB (A := A) (R := R) l b N bs I hl _ 0 rfl (Nat.zero_le _) fin s h
  obtain ⟨hp, g, d, tk, os⟩ := s
  have f3 := AutoSeq1.sub_list_list
  have hne : ¬ (items.size != items2.size) = true := by simp [hs1, hs2]
  wp_walk using wpAny_loadPart' hl1, wpAny_loadPart' hb1
  exact ⟨plainId_quiet plain_eq_loop _, codeAny_builtin entry_eq_loop (by
    rw [Around.under_plainId plain_eq_loop _]
    exact hrec)⟩
theorem rc_eqB {l b : Addr} {N : Nat} {bs : Nat → Bool} {Q : Value → Shared → Prop} {s : Shared} (hu : A.units < cLine) (I : Shared → Prop) (hl : LisB prog w A E l b N bs I)
    (fin : ∀ s, I s → Q (.bool (ansB bs N 0)) s) (h : I s) : wpAny (model prog w) A (richCompare .Eq (.ref l) (.ref b)) Q E s := by
  obtain ⟨items, items2, n, n2, hl1, hb1, _, _, _⟩ := hl _ h
  refine wpAny_richCompare_same_room (op := .Eq) ⟨_, hl1, rfl⟩ ⟨_, hb1, rfl⟩ F.slot_list_eq (GQ.call_here F.slot_list_eq ⟨_, hl1, rfl⟩ F.entry_list_eq (F.args_list_eq_2 _ _) ?_) hu
  exact list_eqB (R := wants (fun v s' => v ≠ .notImplemented ∧ Q v s') E) l b N bs I hl (fun s' q => ⟨(fun x => nomatch x), fin s' q⟩) h
theorem ne_loopB (l b : Addr) (N : Nat) (bs : Nat → Bool) (I : Shared → Prop) (hl : LisB prog w A (fun e s' => R (.error e) s') l b N bs I)
    (k : Nat) : ∀ i : Nat, N - i = k → i ≤ N → (∀ s, I s → R (.ok (.ret (.bool (!(ansB bs N i))))) s) → ∀ s, I s →
      wpAny (model prog w) A.in1 (Builtin.«list.__eq__.loop» ⟨[.ref l, .ref b, rawInt i, rawInt 3], []⟩) (GQ.FinOf prog w A R) (fun e s' => R (.error e) s') s := by
  induction k with
  | zero =>
    intro i hk hi fin s h
    obtain ⟨items, items2, n, n2, hl1, hb1, hs1, hs2, _⟩ := hl _ h
    have hR := fin s h
    rw [ansB_end (by omega)] at hR
    obtain ⟨hp, g, d, tk, os⟩ := s
    wp_walk using wpAny_loadPart' hl1, wpAny_loadPart' hb1
    have hi1 : items[((i : Nat) : Int).toNat]? = none := by simp; omega
    have hi2 : items2[((i : Nat) : Int).toNat]? = none := by simp; omega
    rw [hi1, hi2]
    wp_walk using wpAny_loadPart' hl1, wpAny_loadPart' hb1
    show R (.ok (.ret (.bool (items.size != items2.size)))) _
    rw [hs1, hs2]
    simpa using hR
  | succ k ih =>
    intro i hk hi fin s h
    obtain ⟨items, items2, n, n2, hl1, hb1, hs1, hs2, turn⟩ := hl _ h
    have hlt : i < items.size := by omega
    have hlt2 : i < items2.size := by omega
    have ht := turn i hlt hlt2
    obtain ⟨hp, g, d, tk, os⟩ := s
    wp_walk using wpAny_loadPart' hl1, wpAny_loadPart' hb1
    have hi1 : items[((i : Nat) : Int).toNat]? = some items[i] := by simp [hlt]
    have hi2 : items2[((i : Nat) : Int).toNat]? = some items2[i] := by simp [hlt2]
    have hc : ((i : Int) + 1) = ((i + 1 : Nat) : Int) := by omega
    rw [hi1, hi2]
    refine wpAny_bind (wpAny_mono ht (fun r s2 h2 => ?_) fun _ _ x => x)
    obtain ⟨hr, h2⟩ := h2
    cases r with
    | true =>
      have hrec := ih (i + 1) (by omega) (by omega) (fun s3 h3 => by
        have z := fin s3 h3
        rw [ansB_at (by omega), ← hr, Bool.true_and] at z
        exact z) s2 h2
      obtain ⟨hp2, g2, d2, tk2, os2⟩ := s2
      wp_walk
      rw [hc]
      exact ⟨plainId_quiet plain_eq_loop _, codeAny_builtin entry_eq_loop (by
        rw [Around.under_plainId plain_eq_loop _]
        exact hrec)⟩
    | false =>
      have hR := fin s2 h2
      rw [ansB_at (by omega), ← hr, Bool.false_and] at hR
      obtain ⟨items', items2', n', n2', hl', hb', hs1', hs2', _⟩ := hl _ h2
      have hi1' : items'[((i : Nat) : Int).toNat]? = some (items'[i]'(by omega)) := by simp
      have hi2' : items2'[((i : Nat) : Int).toNat]? = some (items2'[i]'(by omega)) := by simp
      obtain ⟨hp2, g2, d2, tk2, os2⟩ := s2
      wp_walk using wpAny_loadPart' hl', wpAny_loadPart' hb'
      rw [hi1', hi2']
      wp_walk
      simpa using hR
theorem list_neB (l b : Addr) (N : Nat) (bs : Nat → Bool) (I : Shared → Prop) (hl : LisB prog w A (fun e s' => R (.error e) s') l b N bs I)
    (fin : ∀ s, I s → R (.ok (.ret (.bool (!(ansB bs N 0))))) s) {s : Shared} (h : I s) :
    wpAny (model prog w) A.in1 (Builtin.«list.__ne__» ⟨[.ref l, .ref b], []⟩) (GQ.FinOf prog w A R) (fun e s' => R (.error e) s') s := by
  obtain ⟨items, items2, n, n2, hl1, hb1, hs1, hs2, _⟩ := hl _ h
  have hrec := ne_loopB (A := A) (R := R) l b N bs I hl _ 0 rfl (Nat.zero_le _) fin s h
  obtain ⟨hp, g, d, tk, os⟩ := s
  have f3 := AutoSeq1.sub_list_list
  have hne : ¬ (items.size != items2.size) = true := by simp [hs1, hs2]
  wp_walk using wpAny_loadPart' hl1, wpAny_loadPart' hb1
  exact ⟨plainId_quiet plain_eq_loop _, codeAny_builtin entry_eq_loop (by
    rw [Around.under_plainId plain_eq_loop _]
    exact hrec)⟩
theorem rc_neB {l b : Addr} {N : Nat} {bs : Nat → Bool} {Q : Value → Shared → Prop} {s : Shared} (hu : A.units < cLine) (I : Shared → Prop) (hl : LisB prog w A E l b N bs I)
    (fin : ∀ s, I s → Q (.bool (!(ansB bs N 0))) s) (h : I s) : wpAny (model prog w) A (richCompare .NotEq (.ref l) (.ref b)) Q E s := by
  obtain ⟨items, items2, n, n2, hl1, hb1, _, _, _⟩ := hl _ h
  refine wpAny_richCompare_same_room (op := .NotEq) ⟨_, hl1, rfl⟩ ⟨_, hb1, rfl⟩ F.slot_list_ne (GQ.call_here F.slot_list_ne ⟨_, hl1, rfl⟩ F.entry_list_ne (F.args_list_ne_2 _ _) ?_) hu
  exact list_neB (R := wants (fun v s' => v ≠ .notImplemented ∧ Q v s') E) l b N bs I hl (fun s' q => ⟨(fun x => nomatch x), fin s' q⟩) h
/-- x in l: each item compared with x -/
def InB (prog : Program) (w : World) (A : Around) (E : Value → Shared → Prop) (l : Addr) (x : Value) (N : Nat) (bs : Nat → Bool) (I : Shared → Prop) : Prop :=
  ∀ s, I s → ∃ (items : Array Value) (n : Nat), s.heap.get? l = some { cls := .type "list", data := .seq items n } ∧ items.size = N ∧
    ∀ i (h1 : i < items.size), wpAny (model prog w) A.in1 (eqBool items[i] x) (fun r s' => r = bs i ∧ I s') E s
def anyB (bs : Nat → Bool) (N i : Nat) : Bool := ((List.range N).drop i).any bs
theorem anyB_end {bs : Nat → Bool} {N i : Nat} (h : N ≤ i) : anyB bs N i = false := by
  unfold anyB
  rw [List.drop_of_length_le (by simpa using h)]
  rfl
theorem anyB_at {bs : Nat → Bool} {N i : Nat} (h : i < N) : anyB bs N i = (bs i || anyB bs N (i + 1)) := by
  unfold anyB
  rw [show (List.range N).drop i = i :: (List.range N).drop (i + 1) by simp [List.drop_eq_getElem_cons, h], List.any_cons]
theorem in_loopB (l : Addr) (x : Value) (N : Nat) (bs : Nat → Bool) (I : Shared → Prop) (hl : InB prog w A (fun e s' => R (.error e) s') l x N bs I)
    (k : Nat) : ∀ i : Nat, N - i = k → i ≤ N → (∀ s, I s → R (.ok (.ret (.bool (anyB bs N i)))) s) → ∀ s, I s →
      wpAny (model prog w) A.in1 (Builtin.«list.__contains__.loop» ⟨[.ref l, x, rawInt i], []⟩) (GQ.FinOf prog w A R) (fun e s' => R (.error e) s') s := by
  induction k with
  | zero =>
    intro i hk hi fin s h
    obtain ⟨items, n, hl1, hs1, _⟩ := hl _ h
    have hR := fin s h
    rw [anyB_end (by omega)] at hR
    obtain ⟨hp, g, d, tk, os⟩ := s
    wp_walk using wpAny_loadPart' hl1
    have hi1 : items[((i : Nat) : Int).toNat]? = none := by simp; omega
    rw [hi1]
    wp_walk
    exact hR
  | succ k ih =>
    intro i hk hi fin s h
    obtain ⟨items, n, hl1, hs1, turn⟩ := hl _ h
    have hlt : i < items.size := by omega
    have ht := turn i hlt
    obtain ⟨hp, g, d, tk, os⟩ := s
    wp_walk using wpAny_loadPart' hl1
    have hi1 : items[((i : Nat) : Int).toNat]? = some items[i] := by simp [hlt]
    have hc : ((i : Int) + 1) = ((i + 1 : Nat) : Int) := by omega
    rw [hi1]
    refine wpAny_bind (wpAny_mono ht (fun r s2 h2 => ?_) fun _ _ x => x)
    obtain ⟨hr, h2⟩ := h2
    cases r with
    | false =>
      have hrec := ih (i + 1) (by omega) (by omega) (fun s3 h3 => by
        have z := fin s3 h3
        rw [anyB_at (by omega), ← hr, Bool.false_or] at z
        exact z) s2 h2
      obtain ⟨hp2, g2, d2, tk2, os2⟩ := s2
      wp_walk
      rw [hc]
      exact ⟨plainId_quiet plain_contains_loop _, codeAny_builtin entry_contains_loop (by
        rw [Around.under_plainId plain_contains_loop _]
        exact hrec)⟩
    | true =>
      have hR := fin s2 h2
      rw [anyB_at (by omega), ← hr, Bool.true_or] at hR
      obtain ⟨hp2, g2, d2, tk2, os2⟩ := s2
      wp_walk
      simpa using hR
theorem list_inB (l : Addr) (x : Value) (N : Nat) (bs : Nat → Bool) (I : Shared → Prop) (hl : InB prog w A (fun e s' => R (.error e) s') l x N bs I)
    (fin : ∀ s, I s → R (.ok (.ret (.bool (anyB bs N 0)))) s) {s : Shared} (h : I s) :
    wpAny (model prog w) A.in1 (Builtin.«list.__contains__» ⟨[.ref l, x], []⟩) (GQ.FinOf prog w A R) (fun e s' => R (.error e) s') s := by
  have hrec := in_loopB (A := A) (R := R) l x N bs I hl _ 0 rfl (Nat.zero_le _) fin s h
  obtain ⟨hp, g, d, tk, os⟩ := s
  wp_walk
  exact ⟨plainId_quiet plain_contains_loop _, codeAny_builtin entry_contains_loop (by
    rw [Around.under_plainId plain_contains_loop _]
    exact hrec)⟩
theorem notIn_B {l : Addr} {x : Value} {N : Nat} {bs : Nat → Bool} {Q : Value → Shared → Prop} {s : Shared} (I : Shared → Prop) (hl : InB prog w A E l x N bs I)
    (fin : ∀ s, I s → Q (.bool (!(anyB bs N 0))) s) (h : I s) : wpAny (model prog w) A (compareOp .NotIn x (.ref l)) Q E s := by
  obtain ⟨items, n, hl1, _, _⟩ := hl _ h
  show wpAny _ _ (do return .bool (!(← contains (.ref l) x))) Q E s
  refine wpAny_bind (wpAny_contains_slot ⟨_, hl1, rfl⟩ F.slot_list_contains (GQ.call_here F.slot_list_contains ⟨_, hl1, rfl⟩ F.entry_list_contains (F.args_list_contains_2 _ _) ?_))
  exact list_inB (R := wants (fun v s' => wpAny _ A (truthy v) (fun b s'' => wpAny _ A (pure (Value.bool (!b))) Q E s'') E s') E) l x N bs I hl (fun s' q => wpAny_truthy_bool (wpAny_pure (fin s' q))) h
end
end TW
set_option Elab.async false
set_option linter.all false
set_option maxRecDepth 100000
set_option maxHeartbeats 4000000
namespace TW
open PySem PySem.Spec PyProof.Rows L2

/-! ### == with both answers -/
abbrev EqvB := V → V → Hp → Bool → Prop
def MonB (D : EqvB) : Prop := ∀ x y H H' b, Ext H H' → D x y H b → D x y H' b
def EqB (X : Cx) (n : Nat) (D : EqvB) : Prop :=
  ∀ (A : Around) (pins : List (Addr × Obj)) (s : Shared) (σ : L2.St) (H : Hp) (x y : V) (u v : Value) (b : Bool), Sub X n A → L2.Inv X pins σ H s → RelV x u → RelV y v → D x y H b →
    wpAny (model X.prog X.w) A (eqBool u v) (fun r s' => r = b ∧ ∃ H', L2.Inv X pins σ H' s' ∧ Ext H H') X.xe s
def RcB (X : Cx) (n : Nat) (D : EqvB) : Prop :=
  ∀ (A : Around) (pins : List (Addr × Obj)) (s : Shared) (σ : L2.St) (H : Hp) (x y : V) (u v : Value) (b : Bool), Sub X n A → L2.Inv X pins σ H s → RelV x u → RelV y v → D x y H b →
    wpAny (model X.prog X.w) A (richCompare .Eq u v) (fun r s' => r = .bool b ∧ ∃ H', L2.Inv X pins σ H' s' ∧ Ext H H') X.xe s
section
variable {X : Cx} {n m : Nat} {D D' : EqvB}
theorem EqB.mono (h : EqB X n D) (hn : n ≤ m) : EqB X m D := fun A pins s σ H x y u v b sb => h A pins s σ H x y u v b (sb.mono hn)
theorem EqB.or (h : EqB X n D) (h' : EqB X n D') : EqB X n (fun x y H b => D x y H b ∨ D' x y H b) := fun A pins s σ H x y u v b sb I rx ry d => by
  rcases d with d | d
  · exact h A pins s σ H x y u v b sb I rx ry d
  · exact h' A pins s σ H x y u v b sb I rx ry d
/-- data -/
def DDat (K : PySem.W.Frag) : EqvB := fun x y H b => ∃ d e, Dp K H x d ∧ Dp K H y e ∧ SeqAt.shaped d = true ∧ SeqAt.shaped e = true ∧ b = PyData.eqv d e
theorem eqB_dat : EqB X 0 (DDat X.K) := by
  intro A pins s σ H x y u v b sb I rx ry ⟨d, e, hd, he, sd, se, hb⟩
  obtain ⟨as, r1⟩ := Dp.reads I d x u hd rx
  obtain ⟨bs, r2⟩ := Dp.reads I e y v he ry
  have q := SeqAt.eqAt_reads d e A s u v as bs r1 r2 (SeqAt.canLay_of_shaped sd) (SeqAt.canLay_of_shaped se) (SeqAt.room_of_shaped sd sb.room.units)
  rw [← hb] at q
  exact q X.prog X.w X.xe _ ⟨rfl, H, I, Ext.rfl'⟩
/-- instances of the class at C by their own == -/
def DInsB (C : Addr) (R : Addr → Addr → Hp → Bool → Prop) : EqvB := fun x y H r => ∃ a b dx dy fs gs, x = .ref a ∧ y = .ref b ∧ H a = some (.ins C dx fs) ∧ H b = some (.ins C dy gs) ∧ R a b H r
def spEqB (R : Addr → Addr → Hp → Bool → Prop) : Sp := fun vs H Q _ => ∃ a b r, vs = [.ref a, .ref b] ∧ R a b H r ∧ ∀ H', Ext H H' → Q (.bl r) H'
theorem rcB_ins {C : Addr} {R : Addr → Addr → Hp → Bool → Prop} (M : C8.Met X.prog X.w X.K X.mg X.base n C "__eq__" (spEqB R) []) : RcB X n (DInsB C R) := by
  obtain ⟨f, fd, ps, ds, hc, hm, F, hb0, hd0⟩ := M.ex
  cases hd0
  intro A pins s σ H x y u v b sb I rx ry d
  obtain ⟨a, c, dx, dy, fs, gs, rfl, rfl, ha, hb', hr⟩ := d
  cases rx
  cases ry
  obtain ⟨mA, J, _⟩ := ins_get I.hok ha
  obtain ⟨mB, J', _⟩ := ins_get I.hok hb'
  obtain ⟨od, J, _⟩ := J.look
  obtain ⟨od', J', _⟩ := J'.look
  obtain ⟨m, hF⟩ := I.fr
  refine PySem.W.cmp_K (op := .Eq) (tb := .ref C) sb.room.units0 hF I.ok.mod.kin J J'.type (by simp [PySem.W.notFirst]) hm.at_ hm.fn ?_
  have hsp : spEqB R [.ref a, .ref c] H (fun v H' => v = .bl b ∧ Ext H H') C8.E0 := ⟨a, c, b, rfl, hr, fun H' e => ⟨rfl, e⟩⟩
  have e0 : Env0 X.prog X.w X.K X.mg X.base A X.stack s H := by
    have e := I.env0
    exact ⟨by rw [sb.fr]; exact e.frames, e.mod, e.bs, e.bsz, e.funs, e.frf, e.hok, e.bare⟩
  have hl := F.len _ _ _ _ hsp
  have r2 : Vals [V.ref a, V.ref c] [Value.ref a, Value.ref c] := .cons rfl (.cons rfl .nil)
  refine wpAny_call (codeAny_mono (F.run A X.stack s H ⟨[.ref a, .ref c], []⟩ [.ref a, .ref c] [.ref a, .ref c] _ C8.E0 sb.room e0 (by
    have := hb0 s [.ref a, .ref c] I.kIn (by simpa using hl)
    simpa using this) r2 hsp) fun r s' hq => ?_)
  cases r with
  | error e => exact False.elim hq
  | ok fl =>
    cases fl with
    | ret w =>
      obtain ⟨z, H', I', rz, ez, ex⟩ := I.after hq
      subst ez
      cases rz
      exact ⟨rfl, H', I', ex⟩
    | next => exact False.elim hq
    | brk => exact False.elim hq
    | cont => exact False.elim hq
theorem RcB.eqB (h : RcB X n D) (hr : ∀ x y H b, D x y H b → ∃ a c, x = .ref a ∧ y = .ref c ∧ (a = c → b = true)) : EqB X n D := by
  intro A pins s σ H x y u v b sb I rx ry d
  obtain ⟨a, c, rfl, rfl, hs⟩ := hr _ _ _ _ d
  cases rx
  cases ry
  by_cases hab : a = c
  · subst hab
    rw [hs rfl]
    exact SeqAt.EqAt.same (A := A) (s := s) (.ref a) X.prog X.w X.xe _ ⟨rfl, H, I, Ext.rfl'⟩
  · refine GQ.eqBool_refG hab (wpAny_mono (h A pins s σ H (.ref a) (.ref c) _ _ b sb I rfl rfl d) (fun r s' q => ?_) fun _ _ x => x)
    obtain ⟨hr', q⟩ := q
    exact ⟨b, hr', rfl, q⟩
/-- x == y of two instances, as an expression -/
def rEqB (D : EqvB) : R2 := fun x y H Q => ∃ b, D x y H b ∧ ∀ H', Ext H H' → Q (.bl b) H'
theorem op_eqB (h : RcB X n D) (hr : Room n X.A) : OpR X (compareOp .Eq) (rEqB D) := by
  intro pins s σ H x y v u Q I rx ry hq
  obtain ⟨b, d, q⟩ := hq
  show wpAny (model X.prog X.w) X.A (richCompare .Eq v u) (EP X pins σ Q) X.xe s
  refine wpAny_mono (h X.A pins s σ H x y v u b ⟨hr, rfl⟩ I rx ry d) (fun r s' z => ?_) fun _ _ x => x
  obtain ⟨hr', H', I', e⟩ := z
  subst hr'
  exact ⟨.bl b, H', I', rfl, q H' e⟩
/-- item by item -/
def PrsB (D : EqvB) (xs ys : List V) (H : Hp) (bs : Nat → Bool) : Prop := ∀ (i : Nat) x y, xs[i]? = some x → ys[i]? = some y → D x y H (bs i)
theorem turnB (hD : MonB D) (h : EqB X n D) {A : Around} (sb : Sub X (n + 1) A) {pins : List (Addr × Obj)} {σ : L2.St} {H : Hp} {xs ys : List V} {bs : Nat → Bool} {its its2 : List Value} (p : PrsB D xs ys H bs) (r : Vals xs its) (r2 : Vals ys its2)
    (i : Nat) (h1 : i < its.toArray.size) (h2 : i < its2.toArray.size) (s' : Shared) (l : LoopI X pins σ H s') :
    wpAny (model X.prog X.w) A.in1 (eqBool its.toArray[i] its2.toArray[i]) (fun r s2 => r = bs i ∧ LoopI X pins σ H s2) X.xe s' := by
  obtain ⟨H1, I1, e1⟩ := l
  have g1 : its[i]? = some its.toArray[i] := by
    have h1' : i < its.length := by simpa using h1
    rw [List.getElem?_eq_getElem h1'] <;> simp
  have g2 : its2[i]? = some its2.toArray[i] := by
    have h2' : i < its2.length := by simpa using h2
    rw [List.getElem?_eq_getElem h2'] <;> simp
  have k1 : i < xs.length := by rw [r.length]; simpa using h1
  have k2 : i < ys.length := by rw [r2.length]; simpa using h2
  obtain ⟨u, hu, ru⟩ := r.get (List.getElem?_eq_getElem k1)
  obtain ⟨v, hv, rv⟩ := r2.get (List.getElem?_eq_getElem k2)
  rw [g1] at hu
  rw [g2] at hv
  rw [Option.some.inj hu, Option.some.inj hv]
  refine wpAny_mono (h A.in1 pins s' σ H1 _ _ u v _ sb.in1 I1 ru rv (hD _ _ _ _ _ e1 (p i _ _ (List.getElem?_eq_getElem k1) (List.getElem?_eq_getElem k2)))) (fun r s2 q => ?_) fun _ _ x => x
  obtain ⟨hr, H2, I2, e2⟩ := q
  exact ⟨hr, H2, I2, e1.trans e2⟩
/-- xs != ys -/
def rNeB (D : EqvB) : R2 := fun x y H Q => ∃ a c xs ys, x = .ref a ∧ y = .ref c ∧ H a = some (.lst xs) ∧ H c = some (.lst ys) ∧
  ((xs.length ≠ ys.length ∧ Q (.bl true) H) ∨ (xs.length = ys.length ∧ ∃ bs, PrsB D xs ys H bs ∧ ∀ H', Ext H H' → Q (.bl (!(ansB bs xs.length 0))) H'))
theorem op_neB (hD : MonB D) (h : EqB X n D) (hr : Room (n + 1) X.A) : OpR X (compareOp .NotEq) (rNeB D) := by
  intro pins s σ H x y v u Q I rx ry hq
  obtain ⟨a, c, xs, ys, rfl, rfl, ha, hc, hq⟩ := hq
  cases rx
  cases ry
  show wpAny (model X.prog X.w) X.A (richCompare .NotEq _ _) (EP X pins σ Q) X.xe s
  rcases hq with ⟨hl, q⟩ | ⟨hl, bs, p, q⟩
  · obtain ⟨its, r, e, z⟩ := I.list (Evl.sq_of (K := X.K) ha)
    obtain ⟨its2, r2, e2, z2⟩ := I.list (Evl.sq_of (K := X.K) hc)
    exact SeqAt.RcNeAt.lists_lengths e.isList e2.isList (by
      rw [List.size_toArray, List.size_toArray, ← r.length, ← r2.length]
      simpa using hl) hr.units0 X.prog X.w _ _ ⟨.bl true, H, I, rfl, q⟩
  · refine rc_neB (N := xs.length) (bs := bs) hr.units0 (LoopI X pins σ H) (fun s' q => ?_) (fun s' q' => ?_) ⟨H, I, Ext.rfl'⟩
    · obtain ⟨H1, I1, e1⟩ := id q
      obtain ⟨z, its, k, r, e⟩ := I1.hok a _ (e1 _ _ ha)
      obtain ⟨z2, its2, k2, r2, e2⟩ := I1.hok c _ (e1 _ _ hc)
      refine ⟨its.toArray, its2.toArray, k, k2, e, e2, by rw [List.size_toArray, ← r.length], by rw [List.size_toArray, ← r2.length, ← hl], fun i h1 h2 => ?_⟩
      exact turnB hD h ⟨hr, rfl⟩ p r r2 i h1 h2 s' q
    · obtain ⟨H1, I1, e1⟩ := q'
      exact ⟨.bl _, H1, I1, rfl, q H1 e1⟩
/-- x not in xs -/
def rNotInB (D : EqvB) : R2 := fun x y H Q => ∃ a xs bs, y = .ref a ∧ H a = some (.lst xs) ∧ (∀ (i : Nat) z, xs[i]? = some z → D z x H (bs i)) ∧ ∀ H', Ext H H' → Q (.bl (!(anyB bs xs.length 0))) H'
theorem op_notInB (hD : MonB D) (h : EqB X n D) (hr : Room (n + 1) X.A) : OpR X (compareOp .NotIn) (rNotInB D) := by
  intro pins s σ H x y v u Q I rx ry hq
  obtain ⟨a, xs, bs, rfl, ha, p, q⟩ := hq
  cases ry
  refine notIn_B (N := xs.length) (bs := bs) (LoopI X pins σ H) (fun s' q => ?_) (fun s' q' => ?_) ⟨H, I, Ext.rfl'⟩
  · obtain ⟨H1, I1, e1⟩ := id q
    obtain ⟨z, its, k, r, e⟩ := I1.hok a _ (e1 _ _ ha)
    refine ⟨its.toArray, k, e, by rw [List.size_toArray, ← r.length], fun i h1 => ?_⟩
    have g1 : its[i]? = some its.toArray[i] := by
      have h1' : i < its.length := by simpa using h1
      rw [List.getElem?_eq_getElem h1'] <;> simp
    have k1 : i < xs.length := by rw [r.length]; simpa using h1
    obtain ⟨u', hu, ru⟩ := r.get (List.getElem?_eq_getElem k1)
    rw [g1] at hu
    rw [Option.some.inj hu]
    have sb : Sub X (n + 1) X.A := ⟨hr, rfl⟩
    refine wpAny_mono (h X.A.in1 pins s' σ H1 _ _ u' v _ sb.in1 I1 ru rx (hD _ _ _ _ _ e1 (p i _ (List.getElem?_eq_getElem k1)))) (fun r s2 q => ?_) fun _ _ x => x
    obtain ⟨hr, H2, I2, e2⟩ := q
    exact ⟨hr, H2, I2, e1.trans e2⟩
  · obtain ⟨H1, I1, e1⟩ := q'
    exact ⟨.bl _, H1, I1, rfl, q H1 e1⟩
end
end TW
set_option Elab.async false
set_option linter.all false
set_option maxRecDepth 100000
set_option maxHeartbeats 4000000
namespace TW
open PySem PySem.Spec PyProof.Rows L2
/-! ### sorted(xs, key=f) where f's calls are a def's -/
section
open PySem.Calls PySem.W
variable {prog : Program} {w : World} {A : Around} {E : Value → Shared → Prop} {s : Shared} {a kS : Addr} {vs : List Value} {keys : Array Value} {e e1 : Nat} {P : PySem.Fin → Shared → Prop}
/-- the heap behind: the store of keys emptied, the list written -/
def endHeap (h : Heap) (kS a : Addr) (out : List Value) : Heap := (h.update kS (Obj.mapSeq fun _ => (#[] : Array Value))).update a (Obj.mapSeq fun _ => out.toArray)
theorem endHeap_else {h : Heap} {out : List Value} {b : Addr} {o : Obj} (h1 : b ≠ kS) (h2 : b ≠ a) (q : h.get? b = some o) : (endHeap h kS a out).get? b = some o :=
  ((Heap.get?_update_ne _ _ _ _ h2).trans (Heap.get?_update_ne _ _ _ _ h1)).trans q
theorem keyB_tail {st : SortSt} {out : List Value} (nk : s.heap.get? kS = some (seqObj "list" keys e)) (na : s.heap.get? a = some (seqObj "list" #[] e1)) (hka : kS ≠ a)
    (hsz : keys.size ≤ sizeLine) (hz : out.length ≤ sizeLine) (hfl : failedOf st = none) (ho : (arrOf st).map (·.2) = out.toArray)
    (h : ∀ tk c c2, (endHeap s.heap kS a out).get? a = some (seqObj "list" out.toArray c) → (endHeap s.heap kS a out).get? kS = some (seqObj "list" #[] c2) → P (.done (.ret .none)) { s with heap := endHeap s.heap kS a out, toks := tk }) :
    wpAny (model prog w) A (ksk_tail a false e1 (.ref kS) st) P E s := by
  have s1 := Heap.SameBut.update s.heap kS (Obj.mapSeq fun _ => (#[] : Array Value))
  have na1 : (s.heap.update kS (Obj.mapSeq fun _ => (#[] : Array Value))).get? a = some (seqObj "list" #[] e1) := (s1.2 a hka.symm).trans na
  obtain ⟨c1, nk1⟩ : ∃ c, (s.heap.update kS (Obj.mapSeq fun _ => (#[] : Array Value))).get? kS = some (seqObj "list" #[] c) := ⟨_, get?_update_seq nk fun _ => #[]⟩
  have s2 := Heap.SameBut.update (s.heap.update kS (Obj.mapSeq fun _ => (#[] : Array Value))) a (Obj.mapSeq fun _ => out.toArray)
  have nk2 : (endHeap s.heap kS a out).get? kS = some (seqObj "list" #[] c1) := (s2.2 kS hka).trans nk1
  obtain ⟨c2, na2⟩ : ∃ c, (endHeap s.heap kS a out).get? a = some (seqObj "list" out.toArray c) := ⟨_, get?_update_seq na1 fun _ => out.toArray⟩
  unfold ksk_tail
  try dsimp only
  refine wpAny_bind (listUpdate_at nk rfl ?_ hsz (Nat.zero_le _))
  refine wpAny_bind (wpAny_letGo ?_)
  refine wpAny_bind (seqEpoch_at na1 rfl ?_)
  rw [if_neg Bool.false_ne_true, ho]
  refine wpAny_bind (listUpdate_at na1 rfl ?_ (Nat.zero_le _) (by rw [List.size_toArray]; exact Nat.le_succ_of_le hz))
  rw [hfl]
  simp only [bne_self_eq_false, Bool.false_eq_true, if_false]
  exact wpAny_pure (h _ c2 c1 na2 nk2)
theorem keyB_end {κ : PyProof.Rows.KeyKind} (nk : s.heap.get? kS = some (seqObj "list" keys e)) (na : s.heap.get? a = some (seqObj "list" #[] e1)) (hka : kS ≠ a)
    (S : SortsAt prog w A s κ keys.toList) (hsz : keys.size = vs.length) (hZ : vs.length ≤ sizeLine)
    (h : ∀ tk c c2, (endHeap s.heap kS a (sortVals κ false keys.toList vs)).get? a = some (seqObj "list" (sortVals κ false keys.toList vs).toArray c) → (endHeap s.heap kS a (sortVals κ false keys.toList vs)).get? kS = some (seqObj "list" #[] c2) →
      P (.done (.ret .none)) { s with heap := endHeap s.heap kS a (sortVals κ false keys.toList vs), toks := tk }) :
    wpAny (model prog w) A (ksk_end a false vs.toArray e1 (.ref kS) keys) P E s := by
  obtain ⟨kd, h1, h2⟩ := S.kind
  have hkl : keys.toList.length = vs.length := by
    rw [Array.length_toList]
    exact hsz
  have hK : PyProof.Rows.KeysOf κ (keys.zip vs.toArray) := keysOf_zip S.keys
  have hol : (sortVals κ false keys.toList vs).length = vs.length := sortVals_length false hkl
  have hss : (keys.zip vs.toArray).size = vs.length := by rw [Array.size_zip, hsz, List.size_toArray, Nat.min_self]
  have fin : ∀ st' : SortSt, (arrOf st').Perm (keys.zip vs.toArray) → SortedToK κ (arrOf st') (keys.zip vs.toArray).size → Stable κ (arrOf st') (keys.zip vs.toArray) →
      (arrOf st').map (·.2) = (sortVals κ false keys.toList vs).toArray := by
    intro st' hp hs ht
    have q := congrArg List.toArray (sort_out (rev := false) (keys := keys) (items := vs.toArray) (xs := arrOf st') (κ := κ) hK hp hs ht)
    rw [Array.toArray_toList] at q
    exact q
  unfold ksk_end
  try dsimp only
  simp only [Bool.false_eq_true, if_false]
  by_cases hl2 : vs.toArray.size < 2
  · rw [if_pos hl2, if_pos hl2]
    refine wpAny_bind (wpAny_pure ?_)
    rw [StateT.run_pure]
    refine wpAny_bind (wpAny_pure ?_)
    try dsimp only
    refine keyB_tail (st := SortSt.mk' general' (keys.zip vs.toArray) #[] 7 none) nk na hka (by rw [hsz]; exact hZ) (by rw [hol]; exact hZ) rfl (fin _ (Array.Perm.refl _) ?_ (Stable.refl _)) h
    intro i j hij hj
    rw [hss] at hj
    rw [List.size_toArray] at hl2
    have : i = j := by omega
    subst this
    exact KeyOrd.kle_refl _
  · rw [if_neg hl2, if_neg hl2]
    rw [List.size_toArray] at hl2
    refine wpAny_bind (h2 (by omega) _ ?_)
    refine wpAny_bind (wpAny_mono (H.wpS_sortRunsSt (κ := κ) (kd := kd) (a₀ := keys.zip vs.toArray) (st := SortSt.mk' kd (keys.zip vs.toArray) #[] 7 none)
      (Q := fun _ st' => failedOf st' = none ∧ (arrOf st').map (·.2) = (sortVals κ false keys.toList vs).toArray)
      h1 hK ⟨Array.Perm.refl _, rfl, rfl⟩ rfl (Stable.refl _) (by rw [hss]; omega) fun st' a1 a2 a3 a4 => ⟨a2, fin st' a1 a3 a4⟩) ?_ fun _ _ e => e)
    rintro ⟨⟨⟩, st'⟩ s' ⟨rfl, hf, ho⟩
    try dsimp only at ho ⊢
    exact keyB_tail nk na hka (by rw [hsz]; exact hZ) (by rw [hol]; exact hZ) hf ho h
end
end TW
set_option Elab.async false
set_option linter.all false
set_option maxRecDepth 100000
set_option maxHeartbeats 4000000
namespace TW
open PySem PySem.Spec PyProof.Rows L2
/-- the object at a is o, word for word -/
def exO (a : Addr) (o : Obj) : HO := .ext fun h => h.get? a = some o
theorem exO_ok {P : Program} {w : World} {H : Hp} {h : Heap} {a : Addr} {o : Obj} : ObjOk P w H h a (exO a o) ↔ h.get? a = some o :=
  ⟨fun h => h.1, fun e => ⟨e, ⟨o, e⟩, fun _ _ p k => k _ p⟩⟩
section
open PySem.Calls PySem.W
variable {X : Cx} {pins : List (Addr × Obj)} {σ : L2.St} {H : Hp} {s : Shared} {l f : Addr} {bs : List VD} {n : Nat}
theorem dp_exO {K : PySem.W.Frag} {H : Hp} {d : Addr} {o : Obj} {o' : HO} (hd : H d = some (exO d o)) {t : PyData} {v : V} (h : Dp K H v t) : Dp K (upd H d o') v t :=
  dp_upd hd ⟨(fun _ z => nomatch z), (fun _ z => nomatch z), fun _ _ z => nomatch z⟩ t v h
theorem run_sortKey {Q : VK} (I : L2.Inv X pins σ H s) (hs : SqL X.K H l (bs.map Prod.fst)) (hal : AllAlike (bs.map Prod.snd)) (hso : Sortable (bs.map Prod.snd)) (hdep : ∀ p ∈ bs, p.2.depth ≤ 40) (hr : Room (n + 2) X.A)
    (turn : ∀ (A' : Around) (H' : Hp) (s' : Shared) (p : VD) (v : Value), Sub X n A' → L2.Inv X pins σ H' s' → Ext H H' → p ∈ bs → RelV p.1 v →
      wpAny (model X.prog X.w) A' (call (.ref f) [v]) (fun r s'' => ∃ kv H'', L2.Inv X pins σ H'' s'' ∧ Ext H' H'' ∧ RelV kv r ∧ Dp X.K H'' kv p.2) (fun _ _ => False) s')
    (q : ∀ p H', H p = none → Ext H H' → H' p = some (.lst (srt bs)) → Q (.ref p) H') :
    wpAny (model X.prog X.w) X.A (call (.builtin "sorted") [.ref l] [(Str.ofString "key", .ref f)]) (EP X pins σ Q) X.xe s := by
  obtain ⟨its, rv, hl, hz⟩ := I.list hs
  have hlen : its.length = bs.length := by rw [← rv.length, List.length_map]
  have sub : Sub X n X.A.in1.in1 := (Sub.in1 (Sub.in1 ⟨hr, rfl⟩))
  refine sorted_of_sort hl.isList (by rw [hlen]; simpa using hz) (ksk_s1 _ _) (fun _ => ksk_l1 _ _) fun E' => ?_
  rw [ksk_t1]
  unfold ksk_tree
  have ho := copyHeap_at s.heap its
  have hZ : its.length ≤ sizeLine := by rw [hlen]; simpa using hz
  obtain ⟨e1, ho1⟩ : ∃ e1, ((copyHeap s.heap its).update (s.heap.objs.size + 1) (Obj.mapSeq fun _ => (#[] : Array Value))).get? (s.heap.objs.size + 1) = some (seqObj "list" #[] e1) := ⟨_, get?_update_seq ho fun _ => #[]⟩
  refine wpAny_bind (listItems_at ho rfl ?_)
  refine wpAny_bind (listUpdate_at ho rfl ?_ (by rw [List.size_toArray]; exact hZ) (Nat.zero_le _))
  refine wpAny_bind (seqEpoch_at ho1 rfl ?_)
  refine wpAny_bind (wpAny_newTuple ?_ (by show its.length ≤ _; exact hZ))
  refine wpAny_bind (wpAny_newList ?_ (Nat.zero_le _))
  refine wpAny_holding ?_
  generalize ea : s.heap.objs.size + 1 = a at ho ho1 ⊢
  have hle : s.heap.objs.size ≤ a := by rw [← ea]; exact Nat.le_succ _
  have hH : H a = none := I.hok.fresh hle
  have I1 : L2.Inv X pins σ (upd H a (exO a (seqObj "list" #[] e1))) { s with heap := (copyHeap s.heap its).update a (Obj.mapSeq fun _ => (#[] : Array Value)) } :=
    I.laid (t' := s.toks) (fun b u e => (Heap.get?_update_ne _ _ _ _ (Nat.ne_of_lt (Nat.lt_of_lt_of_le (Heap.lt_size e) hle))).trans (copyHeap_old e)) hle (exO_ok.mpr ho1)
  obtain ⟨kS, ekS, ekS2⟩ : ∃ kS, kS = (((copyHeap s.heap its).update a (Obj.mapSeq fun _ => (#[] : Array Value))).push (seqObj "tuple" its.toArray 0)).objs.size ∧ a < kS :=
    ⟨_, rfl, by rw [size_push', Heap.size_update]; exact Nat.lt_succ_of_lt (Heap.lt_size ho)⟩
  have nkS : (upd H a (exO a (seqObj "list" #[] e1))) kS = none := I1.hok.fresh (by
    show ((copyHeap s.heap its).update a (Obj.mapSeq fun _ => (#[] : Array Value))).objs.size ≤ kS
    rw [ekS, size_push']; omega)
  have I2 : L2.Inv X pins σ (upd (upd H a (exO a (seqObj "list" #[] e1))) kS (exO kS (seqObj "list" #[] 0))) { s with heap := (((copyHeap s.heap its).update a (Obj.mapSeq fun _ => (#[] : Array Value))).push (seqObj "tuple" its.toArray 0)).push (seqObj "list" #[] 0) } :=
    I1.laid (t' := s.toks) (fun b u e => Heap.get?_push_of_some _ (Heap.get?_push_of_some _ e)) (by
      show ((copyHeap s.heap its).update a (Obj.mapSeq fun _ => (#[] : Array Value))).objs.size ≤ kS
      rw [ekS, size_push']; omega) (exO_ok.mpr (by rw [ekS]; exact Heap.get?_push_size _ rfl))
  rw [← ekS]
  have hka : kS ≠ a := Nat.ne_of_gt ekS2
  generalize eh : (((copyHeap s.heap its).update a (Obj.mapSeq fun _ => (#[] : Array Value))).push (seqObj "tuple" its.toArray 0)).push (seqObj "list" #[] 0) = h2 at I2
  have eha : Ext H (upd H a (exO a (seqObj "list" #[] e1))) := Ext.upd hH
  have atA : ∀ H', Ext (upd H a (exO a (seqObj "list" #[] e1))) H' → H' a = some (exO a (seqObj "list" #[] e1)) := fun H' e => e _ _ upd_same
  show wpAny _ _ (ksk_rest a (.ref f) false its.toArray e1 (.ref kS)) _ _ { s with heap := _ }
  unfold ksk_rest
  refine wpAny_bind (wpAny_rule ?_)
  first
    | rw [List.forIn_toArray]
    | (rw [← Array.forIn_toList]; simp only [List.toList_toArray])
  refine wpAny_bind (ksk_fold (fun i s' => ∃ H' kA e, L2.Inv X pins σ H' s' ∧ Ext (upd H a (exO a (seqObj "list" #[] e1))) H' ∧ H' kS = some (exO kS (seqObj "list" kA e)) ∧ EachIs (fun v (p : VD) => ∃ kv, RelV kv v ∧ Dp X.K H' kv p.2) kA.toList (bs.take i)) its 0 _
    ⟨_, #[], 0, I2, Ext.upd nkS, upd_same, by rw [List.take_zero]; exact EachIs.nil⟩ ?step ?done)
  case step =>
    rintro j x s' hx ⟨H', kA, e, J, eH, nk, hk⟩
    simp only [Nat.zero_add] at hk ⊢
    have hj : j < its.length := (List.getElem?_eq_some_iff.mp hx).1
    obtain ⟨p, hp⟩ : ∃ p, bs[j]? = some p := ⟨_, List.getElem?_eq_getElem (by omega)⟩
    obtain ⟨x', hx', rx⟩ := rv.get (i := j) (x := p.1) (by rw [List.getElem?_map, hp]; rfl)
    rw [hx] at hx'
    cases hx'
    have hzk : kA.size ≤ its.length := by
      have h1 := hk.length
      rw [Array.length_toList, List.length_take] at h1
      omega
    refine wpAny_bind (wpAny_attempt (wpAny_mono (turn _ H' s' p x sub J (eha.trans eH) (List.mem_of_getElem? hp) rx) (fun v s'' he => ?_) fun _ _ hF => hF.elim))
    obtain ⟨kv, H'', J', eH', rk, dk⟩ := he
    try dsimp only
    have nk' := eH' _ _ nk
    have nk2 : s''.heap.get? kS = some (seqObj "list" kA e) := exO_ok.mp (J'.hok kS _ nk')
    obtain ⟨c2, hc2⟩ : ∃ c2, (s''.heap.update kS (Obj.mapSeq (·.push v))).get? kS = some (seqObj "list" (kA.push v) c2) := ⟨_, get?_update_seq nk2 (·.push v)⟩
    have s1 := Heap.SameBut.update s''.heap kS (Obj.mapSeq (·.push v))
    refine wpAny_bind (listUpdate_at nk2 rfl ?_ (Nat.le_trans hzk hZ) (Nat.le_trans (Nat.le_of_eq (Array.size_push ..)) (Nat.succ_le_succ (Nat.le_trans hzk hZ))))
    refine wpAny_pure ⟨rfl, upd H'' kS (exO kS (seqObj "list" (kA.push v) c2)), kA.push v, c2, J'.write (t' := s''.toks) (e := kS) (by rw [nk']; exact True.intro) (.inl rfl) (fun b u hb e => (s1.2 b hb).trans e) ⟨_, hc2⟩ (exO_ok.mpr hc2), fun b o e => ?_, upd_same, ?_⟩
    · rw [upd_ne (ne_of_none e nkS)]
      exact eH' _ _ (eH _ _ e)
    · have ek : bs.take (j + 1) = bs.take j ++ [p] := by rw [List.take_add_one, hp]; simp
      rw [show (kA.push v).toList = kA.toList ++ [v] by simp, ek]
      generalize hHH : upd H'' kS (exO kS (seqObj "list" (kA.push v) c2)) = H3
      refine @PySem.W.each_snoc Value VD (fun v p => ∃ kv, RelV kv v ∧ Dp X.K H3 kv p.2) v p ⟨kv, rk, by rw [← hHH]; exact dp_exO nk' dk⟩ kA.toList (bs.take j) ?_
      rw [← hHH]
      exact hk.mono fun u p ⟨kv, r1, d1⟩ => ⟨kv, r1, dp_exO nk' (Dp.ext eH' _ _ d1)⟩
  case done =>
    rintro s' ⟨H', kA, e, J, eH, nk, hk⟩
    rw [Nat.zero_add, List.take_of_length_le (by omega)] at hk
    have nk2 : s'.heap.get? kS = some (seqObj "list" kA e) := exO_ok.mp (J.hok kS _ nk)
    have na := atA H' eH
    have na2 : s'.heap.get? a = some (seqObj "list" #[] e1) := exO_ok.mp (J.hok a _ na)
    have hk' : EachIs (fun v (p : VD) => ∃ as, Reads s'.heap v p.2 as) kA.toList bs := hk.mono fun v p ⟨kv, r1, d1⟩ => Dp.reads J _ _ _ d1 r1
    have hk2 : EachIs (fun v d => ∃ as, Reads s'.heap v d as) kA.toList (bs.map Prod.snd) := each_map (R := fun v d => ∃ as, Reads s'.heap v d as) Prod.snd hk'
    have hsz : kA.size = its.length := by
      have h1 := hk'.length
      rw [Array.length_toList] at h1
      omega
    have hu : ∀ d, d ∈ bs.map Prod.snd → X.A.in1.in1.units + d.depth < cLine := fun d hd => by
      obtain ⟨p, hp, e⟩ := List.mem_map.mp hd
      have h1 := hdep p hp
      have h2 := sub.room.units
      rw [← e]
      omega
    try dsimp only
    refine wpAny_bind (listItems_at nk2 rfl ?_)
    refine keyB_end (κ := dataKind s'.heap (bs.map Prod.snd)) nk2 na2 hka (SortsAt.data hk2 hal hso hu) hsz hZ fun tk c c2 ha1 hk1 => ⟨rfl, ?_⟩
    have er : EachIs (fun u (p : VD) => RelV p.1 u) (sortVals (dataKind s'.heap (bs.map Prod.snd)) false kA.toList its) (bs.mergeSort (dataLe false Prod.snd)) :=
      keyedOut_each Prod.snd ⟨s'.heap, kA.toList, hal, rfl, hk2⟩ (each_rel rv)
    have hv : Vals (srt bs) _ := rel_each er
    have hlen2 : (srt bs).length ≤ sizeLine := by rw [hv.length, sortVals_length false (by rw [Array.length_toList]; exact hsz)]; exact hZ
    generalize hout : sortVals (dataKind s'.heap (bs.map Prod.snd)) false kA.toList its = out at hv ha1 hk1 ⊢
    have J1 : L2.Inv X pins σ (upd H' kS (exO kS (seqObj "list" #[] c2))) { s' with heap := s'.heap.update kS (Obj.mapSeq fun _ => (#[] : Array Value)), toks := tk } := by
      obtain ⟨c3, hc3⟩ : ∃ c, (s'.heap.update kS (Obj.mapSeq fun _ => (#[] : Array Value))).get? kS = some (seqObj "list" #[] c) := ⟨_, get?_update_seq nk2 fun _ => #[]⟩
      have e3 : c3 = c2 := by
        have z := (Heap.SameBut.update (s'.heap.update kS (Obj.mapSeq fun _ => (#[] : Array Value))) a (Obj.mapSeq fun _ => out.toArray)).2 kS hka
        have z2 := z.symm.trans hk1
        rw [hc3] at z2
        injection z2 with z3
        injection z3 with _ _ z4
        injection z4
      exact J.write (t' := tk) (e := kS) (by rw [nk]; exact True.intro) (.inl rfl) (fun b u hb e => ((Heap.SameBut.update s'.heap kS (Obj.mapSeq fun _ => (#[] : Array Value))).2 b hb).trans e) ⟨_, hc3⟩ (exO_ok.mpr (by rw [← e3]; exact hc3))
    have J2 : L2.Inv X pins σ (upd (upd H' kS (exO kS (seqObj "list" #[] c2))) a (.lst (srt bs))) { s' with heap := endHeap s'.heap kS a out, toks := tk } :=
      J1.write (t' := tk) (e := a) (by rw [upd_ne hka.symm, na]; exact True.intro) (.inl rfl) (fun b u hb e => ((Heap.SameBut.update (s'.heap.update kS (Obj.mapSeq fun _ => (#[] : Array Value))) a (Obj.mapSeq fun _ => out.toArray)).2 b hb).trans e) ⟨_, ha1⟩ ⟨hlen2, out, c, hv, ha1⟩
    refine ⟨.ref a, _, J2, rfl, q a _ hH (fun b o e => ?_) upd_same⟩
    rw [upd_ne (ne_of_none e hH), upd_ne (ne_of_none (eha _ _ e) nkS)]
    exact eH _ _ (eha _ _ e)
end
end TW
set_option Elab.async false
set_option linter.all false
set_option maxRecDepth 100000
set_option maxHeartbeats 4000000
namespace TW
open PySem PySem.Spec PyProof.Rows L2 NdefX LamX
section
variable {X : Cx} {pins : List (Addr × Obj)} {σ : L2.St} {H : Hp} {s : Shared} {k : Nat}
/-- a lambda with parameters runs -/
theorem lam_run {A' : Around} {f : Addr} {F : NF} {bodyE : Expr} {pm ctv : Value} {ps fr N : List Str} {us : List Value} {vs : List V} {ws : List (Option V)} {Q : VK} (I : L2.Inv X pins σ H s) (sb : Sub X (k + 1) A')
    (hf : s.heap.get? f = some (PySem.W.kla_obj F.name F.qual F.params bodyE F.scope F.cl pm F.c ctv)) (hc : H F.c = some (CodeO F.c F.qual)) (S : NScope N ps fr F.scope)
    (hb : bindArgs (PySem.W.kla_fn F.name F.qual F.params bodyE F.scope F.cl pm (.ref F.c) ctv) ⟨us, []⟩ = pure (ps.zip us)) (C : CellsAt F.cl fr ws s.heap H) (r : Vals vs us) (hl : vs.length = ps.length)
    (hbody : Room k (A'.deeper (envF F f s.heap.objs.size)) → ∃ t, PE (ncx C8.CX0 X.prog X.w X.K X.mg X.base N F f A' X.stack s H C8.E0) bodyE t ∧ t (startF N vs ws) H Q) :
    wpAny (model X.prog X.w) A' (call (.ref f) us) (EP X pins σ Q) (fun _ _ => False) s := by
  have e0 : Env0 X.prog X.w X.K X.mg X.base A' X.stack s H := by
    have e := I.env0
    exact ⟨by rw [sb.fr]; exact e.frames, e.mod, e.bs, e.bsz, e.funs, e.frf, e.hok, e.bare⟩
  have lim : s.heap.NoLimit := I.nolimit
  have rc : codeAny (model X.prog X.w) A' (.call (.ref f) ⟨us, []⟩) (CR C8.CX0 X.stack X.prog X.w H s Q C8.E0) s := by
    refine PySem.W.kla_callFunE sb.room.depth hf rfl S.co S.gen rfl (codeO_at I.hok hc) ?_
    rw [hb]
    refine wpAny_pure (wpAny_newFunctionEnv S.nocell (fun ⟨n, _⟩ hy => S.par n (List.of_mem_zip hy).1) (fun h₁ hns hsb => ⟨lim.fresh _ hsb, ?_⟩) S.kind)
    show codeAny _ _ (.expr bodyE (envF F f s.heap.objs.size)) _ _
    have kp : ∀ b o, s.heap.get? b = some o → h₁.get? b = some o := fun b o e => hsb.extBut b o (Nat.ne_of_lt (Heap.lt_size e)) (Heap.get?_push_of_some _ e)
    have J : L2.Inv (ncx C8.CX0 X.prog X.w X.K X.mg X.base N F f A' X.stack s H C8.E0) [] (startF N vs ws) H { s with heap := h₁, toks := s.toks + (ps.zip us).length } := inv_startN S sb.room.hd e0 hl r C hns kp
    obtain ⟨t, ht, hq⟩ := hbody (sb.room.deeper _)
    refine PySem.W.kla_codeExpr (wpAny_mono (ht.run [] _ _ H Q J hq) (fun v s' hq => ?_) fun e s' hq => hq)
    obtain ⟨w', H', J', rv, q⟩ := hq
    exact ⟨w', H', J'.os, J'.bare, J'.base, J'.hok, rv, q⟩
  refine wpAny_call (codeAny_mono rc fun r s' hq => ?_)
  cases r with
  | error e => exact False.elim hq
  | ok fl =>
    cases fl with
    | ret u => exact I.after hq
    | next => exact False.elim hq
    | brk => exact False.elim hq
    | cont => exact False.elim hq
theorem SqL.extN {K : PySem.W.Frag} {H H' : Hp} {a : Addr} {xs : List V} (h : SqL K H a xs) (e : ExtN H H') : SqL K H' a xs :=
  h.elim (fun h => .inl (h.elim (fun h => .inl (e _ _ h (fun _ z => nomatch z))) fun ⟨o, h⟩ => .inr ⟨o, e _ _ h (fun _ z => nomatch z)⟩)) fun h => .inr h
/-- sorted(e, key=lambda x: body) -/
def tSortLam (K : PySem.W.Frag) (T : List (Addr × Str)) (N : List Str) (js : List Nat) (te tb : TE) : TE := fun σ H Q => te σ H fun x H1 => ∃ (l : Addr) (bs : List VD), x = .ref l ∧ SqL K H1 l (bs.map Prod.fst) ∧
  PySem.W.AllAlike (bs.map Prod.snd) ∧ PySem.W.Sortable (bs.map Prod.snd) ∧ (∀ p ∈ bs, p.2.depth ≤ 40) ∧ Tabs T H1 ∧
  (∀ H2 b, ExtN H1 H2 → b ∈ bs → tb (startF N [b.1] (js.map (slotAt σ))) H2 fun kv H3 => Ext H2 H3 ∧ Dp K H3 kv b.2) ∧
  ∀ p H2 H', ExtN H1 H2 → Tabs T H2 → H2 p = none → Ext H2 H' → H' p = some (.lst (srt bs)) → Q (.ref p) H'
theorem pe_sortLam {T : List (Addr × Str)} {c P : Addr} {e body : Expr} {te tb : TE} {params : Arguments} {scope : Scope} {p lpos kpos pos : Pos} {N fr : List Str} {px : Str} {js : List Nat} {k : Nat} (hg : Gl X "sorted") (hm : X.mg "sorted" = none)
    (TB : TabB X.base X.mg c P) (hcode : X.env.code = .ref c) (hmT : (P, X.env.qual ++ "<lambda>") ∈ T) (hu : ∀ p ∈ T, p.1 = P → p.2 = X.env.qual ++ "<lambda>") (hr : Room (k + 3) X.A) (hdef : defaultsOf params X.env = ([], []))
    (hbind : ∀ (q : Str) (cl : List (Str × Addr)) (pm cv ctv u : Value), bindArgs (PySem.W.kla_fn "<lambda>" q params body scope cl pm cv ctv) ⟨[u], []⟩ = pure [(px, u)])
    (S : NScope N [px] fr scope) (hfree : ∀ y ∈ scope.names, y.2 = .free → X.env.scope.names.lookup y.1 = some .cell ∨ X.env.scope.names.lookup y.1 = some .free) (hfr : ∀ y ∈ fr, (y, NameKind.free) ∈ scope.names) (hjs : js.map (fun j => X.N[j]?) = fr.map some)
    (he : PE X e te)
    (hbody : ∀ (F : NF) (f : Addr) (A : Around) (outer : List Env) (s : Shared) (H : Hp), F.scope = scope → Room k (A.deeper (envF F f s.heap.objs.size)) → PE (ncx C8.CX0 X.prog X.w X.K X.mg X.base N F f A outer s H C8.E0) body tb)
    (hst : backTo pos (starEach [e] X.env) = (false, eval e X.env) :: backTo pos (starEach [] X.env) := by rfl) (hpl : (backTo pos (starEach [e] X.env)).any (·.1) = false := by rfl) :
    PE X (.Call (.Name "sorted" p) [e] [⟨some "key", .Lambda params body scope lpos, kpos⟩] pos) (tSortLam X.K T N js te tb) := by
  refine ⟨fun pins s σ H Q I h => ?_⟩
  refine wpAny_Call_Name_kw (ld_blt I hg hm (show bootBuiltins "sorted" = some (.builtin "sorted") by decide +kernel) ?_)
  refine PyProof.Rows.callWith_kw ?_ hst hpl (by rfl) (by rfl)
  rw [hst]
  refine Calls.spliced_cons (thn (he.run pins s σ H _ I h) fun u s1 ⟨x, H1, I1, r1, l, bs, ex, hs, hal, hso, hdep, hT, hq, q⟩ => Calls.spliced_nil ?_)
  subst ex
  cases r1
  show wpAny _ _ (evalAll ((do let v ← eval (.Lambda params body scope lpos) X.env; standAt pos; pure v) :: [])) _ _ s1
  have hfree' : ∀ y ∈ scope.names, y.2 = .free → ∃ c, X.env.cells.lookup y.1 = some c := fun y hy e => (hfree y hy e).elim (fun z => I.ok.has _ (.inl z)) fun z => I.ok.has _ (.inr z)
  refine wpAny_evalAll_cons (wpAny_bind (lam_make2 I1 TB hcode hmT hu hT hdef hfree' fun f c' pm ctv H2 s2 I2 eN T2 hf hfn hfs hco => wpAny_bind (wpAny_standAt (wpAny_pure (wpAny_evalAll_nil ?_)))))
  have hL : f ≠ X.env.locals := fun z => by
    obtain ⟨m, ⟨o, es, ep, ho, hd, _⟩, _⟩ := I2.loc
    rw [← z, hf] at ho
    injection ho with ho
    rw [← ho] at hd
    exact nomatch hd
  have hfs2 : f ∉ X.fs := fun z => hfs (by
    rcases I2.ok.stk with e | ⟨e, _⟩
    · rw [e]; exact z
    · rw [e]
      exact (show X.fs ⊆ frs (X.env :: X.outer) from fun b hb => by
        show b ∈ (X.env :: X.outer).filterMap (·.frame)
        have hb : b ∈ X.outer.filterMap (·.frame) := hb
        rw [List.mem_filterMap] at hb ⊢
        obtain ⟨v, hv, e⟩ := hb
        exact ⟨v, List.mem_cons_of_mem _ hv, e⟩) z)
  have I3 : L2.Inv X ((f, PySem.W.kla_obj "<lambda>" (X.env.qual ++ "<lambda>") params body scope (cloFrom X.env.cells scope.names []) pm c' ctv) :: pins) σ H2 s2 := I2.pins_of fun p hp => by
    rcases List.mem_cons.mp hp with e | hp
    · rw [e]
      exact ⟨hf, hfn, hL, hfs2, fun v z => nomatch z⟩
    · exact I2.pin p (List.mem_append_right _ hp)
  refine wpAny_mono (run_sortKey (n := k + 1) I3 (SqL.extN hs eN) hal hso hdep hr (fun A' H' s' p v sb J eH hp rv => ?_) fun p H' hp eH hp' => q p H2 H' eN T2 hp eH hp') (fun u s3 ⟨v, H', J, r, z⟩ => ⟨v, H', J.pins_of fun p hp => J.pin p (List.mem_append_right _ (List.mem_cons_of_mem _ hp)), r, z⟩) fun _ _ x => x
  have hf' := (J.pin _ (List.mem_append_right _ List.mem_cons_self)).1
  have cap : Caps X (cloFrom X.env.cells scope.names []) fr js := Caps.made J.ok hfree hfr hjs
  refine wpAny_mono (lam_run (F := ⟨"<lambda>", X.env.qual ++ "<lambda>", params, [], scope, cloFrom X.env.cells scope.names [], c'⟩) (ps := [px]) (vs := [p.1]) (Q := fun kv H3 => Ext H' H3 ∧ Dp X.K H3 kv p.2) J sb hf' (eH _ _ hco) S (hbind _ _ _ _ _ _) (cells_of J cap) (.cons rv .nil) rfl
    (fun hr' => ⟨tb, hbody _ _ _ _ _ _ rfl hr', hq H' p (eN.trans (ExtN.of eH)) hp⟩)) (fun r s'' ⟨kv, H'', J', rk, e'', dk⟩ => ⟨kv, H'', J', e'', rk, dk⟩) fun _ _ x => x
end
end TW
set_option Elab.async false
set_option linter.all false
set_option maxRecDepth 100000
set_option maxHeartbeats 4000000
namespace TW
open PySem PySem.Spec PyProof.Rows L2
/-! ### zip of a tuple and a list, either way round -/
def itA (t : Bool) (h : Heap) (it l : Addr) (i : Nat) : Prop := match t with
  | true => h.IsTupleIter it l i
  | false => h.IsListIter it l i
def sqA (t : Bool) (h : Heap) (l : Addr) (xs : Array Value) : Prop := match t with
  | true => h.IsTuple l xs
  | false => h.IsList l xs
theorem itA_at {t : Bool} {h h' : Heap} {it l : Addr} {i : Nat} (x : itA t h it l i) (e : ∀ o, h.get? it = some o → h'.get? it = some o) : itA t h' it l i := by
  cases t with
  | true => exact Heap.IsTupleIter.at x e
  | false => exact Heap.IsListIter.at x e
theorem sqA_at {t : Bool} {h h' : Heap} {l : Addr} {xs : Array Value} (x : sqA t h l xs) (e : ∀ o, h.get? l = some o → h'.get? l = some o) : sqA t h' l xs := by
  cases t with
  | true => exact Heap.IsTuple.at x e
  | false => exact Heap.IsList.at x e
theorem itA_obj {t : Bool} {h : Heap} {it l : Addr} {i : Nat} (x : itA t h it l i) : ∃ o, h.get? it = some o ∧ o.data = .fields #[.ref l, .int i 0] := by
  cases t with
  | true => exact let ⟨o, a, _, b⟩ := x; ⟨o, a, b⟩
  | false => exact let ⟨o, a, _, b⟩ := x; ⟨o, a, b⟩
theorem sqA_lt {t : Bool} {h : Heap} {l : Addr} {xs : Array Value} (x : sqA t h l xs) : l < h.objs.size := by
  cases t with
  | true => exact let ⟨o, a, _⟩ := x; Heap.lt_size a
  | false => exact let ⟨o, a, _⟩ := x; Heap.lt_size a
section
variable {prog : Program} {w : World} {A : Around} {E : Value → Shared → Prop} {s : Shared}
theorem nextA_item {t : Bool} {it l : Addr} {i : Nat} {items : Array Value} {x : Value} {Q : Value → Shared → Prop} (hit : itA t s.heap it l i) (hl : sqA t s.heap l items) (hx : items[i]? = some x)
    (hQ : ∀ h', itA t h' it l (i + 1) → Heap.SameBut it s.heap h' → Q x { s with heap := h' }) : wpAny (model prog w) A (Builtin.SmallTypes.nextOf (.ref it)) Q E s := by
  cases t with
  | true => exact RZ.nextOf_tuple_item hit hl hx hQ
  | false => exact wpAny_nextOf_list_item hit hl hx hQ
theorem nextA_end {t : Bool} {it l : Addr} {i : Nat} {items : Array Value} {Q : Value → Shared → Prop} (hh : A.handled = none) (hit : itA t s.heap it l i) (hl : sqA t s.heap l items) (hx : items[i]? = none)
    (hE : ∀ h' e, Heap.ExtBut it s.heap h' → (∃ o, h'.get? e = some o ∧ o.cls = .type "StopIteration") → E (.ref e) { s with heap := h' }) : wpAny (model prog w) A (Builtin.SmallTypes.nextOf (.ref it)) Q E s := by
  cases t with
  | true => exact RZ.nextOf_tuple_end hh hit hl hx hE
  | false => exact wpAny_nextOf_list_end hh hit hl hx hE
theorem zipA_item {t1 t2 : Bool} {z TI TO i1 i2 l1 l2 : Addr} {k1 k2 : Nat} {xs ys : Array Value} {x y a b : Value} {Q : Option Value → Shared → Prop} (D : ZipApart z TI TO i1 i2 l1 l2)
    (hz : IsZip s.heap z TI TO .none) (hTI : IsPair s.heap TI (.ref i1) (.ref i2)) (hTO : IsPair s.heap TO a b)
    (h1 : itA t1 s.heap i1 l1 k1) (h2 : itA t2 s.heap i2 l2 k2) (hl1 : sqA t1 s.heap l1 xs) (hl2 : sqA t2 s.heap l2 ys) (hx : xs[k1]? = some x) (hy : ys[k2]? = some y)
    (hQ : ∀ h', IsZip h' z TI TO (rawInt s.heap.objs.size) → IsPair h' TO x y → itA t1 h' i1 l1 (k1 + 1) → itA t2 h' i2 l2 (k2 + 1) → IsPair h' s.heap.objs.size x y →
      (∀ c o, c ≠ z → c ≠ TO → c ≠ i1 → c ≠ i2 → s.heap.get? c = some o → h'.get? c = some o) → Q (some (.ref s.heap.objs.size)) { s with heap := h' }) :
    wpAny (model prog w) A (pyNext (.ref z)) Q E s := by
  have hT : s.TypeIs (.ref z) "zip" := ⟨_, hz, rfl⟩
  unfold pyNext
  refine wpAny_bind (wpAny_attempt (wpAny_callSpecial?_slot (name := Str.ofString "__next__") hT F.slot_zip_next (wpAny_call_entry F.slot_zip_next hT F.entry_zip_next ?_ (F.args_zip_next_1 _))))
  show wpAny _ _ (field (.ref z) 2 >>= _) _ _ _
  refine wpAny_bind (wpAny_field hz rfl (x := .bool false) rfl ?_)
  show wpAny _ _ (field (.ref z) 3 >>= _) _ _ _
  refine wpAny_bind (wpAny_field hz rfl (x := .ref TI) rfl (wpAny_bind (wpAny_seqItems hTI rfl ?_)))
  show wpAny _ _ (Builtin.SmallTypes.ownedTupleIsFree (.ref z) >>= _) _ _ _
  refine wpAny_bind ?_
  unfold Builtin.SmallTypes.ownedTupleIsFree
  refine wpAny_bind (wpAny_field hz rfl (x := .none) rfl (wpAny_pure ?_))
  simp only [if_true]
  refine wpAny_bind (wpAny_rule (wpAny_bind (wpAny_field hz rfl (x := .ref TO) rfl (wpAny_bind (wpAny_setField_rec hz (by simp) fun g1 gz1 gs1 => ?_)))))
  replace gz1 : IsZip g1 z TI TO .ellipsis := gz1
  have up1 : ∀ c o, c ≠ z → s.heap.get? c = some o → g1.get? c = some o := fun c o h e => gs1.extBut _ _ h e
  refine wpAny_bind ?_
  simp only [List.zipIdx_cons, List.zipIdx_nil, List.forIn_cons, List.forIn_nil]
  refine wpAny_bind (wpAny_bind (wpAny_onRaise ?_))
  show wpAny _ _ (Builtin.SmallTypes.nextOf (.ref i1) >>= _) _ _ _
  refine wpAny_bind (nextA_item (itA_at h1 fun o e => up1 _ o D.i1z e) (sqA_at hl1 fun o e => up1 _ o D.l1z e) hx fun g2 k2' gs2 => wpAny_pure ?_)
  have up2 : ∀ c o, c ≠ z → c ≠ i1 → s.heap.get? c = some o → g2.get? c = some o := fun c o h h' e => gs2.extBut _ _ h' (up1 c o h e)
  refine wpAny_bind (wpAny_seqItems (show IsPair g2 TO a b from up2 _ _ D.TOz D.TOi1 hTO) rfl (wpAny_bind (wpAny_updateSeq_pair (show IsPair g2 TO a b from up2 _ _ D.TOz D.TOi1 hTO) fun g3 gT3 gs3 => ?_)))
  replace gT3 : IsPair g3 TO x b := gT3
  have up3 : ∀ c o, c ≠ z → c ≠ i1 → c ≠ TO → s.heap.get? c = some o → g3.get? c = some o := fun c o h h' h'' e => gs3.extBut _ _ h'' (up2 c o h h' e)
  refine wpAny_bind (wpAny_letGo (wpAny_pure ?_))
  refine wpAny_bind (wpAny_bind (wpAny_onRaise ?_))
  show wpAny _ _ (Builtin.SmallTypes.nextOf (.ref i2) >>= _) _ _ _
  refine wpAny_bind (nextA_item (itA_at h2 fun o e => up3 _ o D.i2z D.i12.symm D.TOi2.symm e) (sqA_at hl2 fun o e => up3 _ o D.l2z D.l2i1 D.l2TO e) hy fun g4 k4 gs4 => wpAny_pure ?_)
  have gT4 : IsPair g4 TO x b := gs4.extBut _ _ D.TOi2 gT3
  refine wpAny_bind (wpAny_seqItems gT4 rfl (wpAny_bind (wpAny_updateSeq_pair gT4 fun g5 gT5 gs5 => ?_)))
  replace gT5 : IsPair g5 TO x y := gT5
  refine wpAny_bind (wpAny_letGo (wpAny_pure (wpAny_pure ?_)))
  refine wpAny_bind (wpAny_seqItems gT5 rfl (wpAny_bind (wpAny_newTuple ?_)))
  have hsz : g5.objs.size = s.heap.objs.size := by rw [gs5.1, gs4.1, gs3.1, gs2.1, gs1.1]
  have gz5 : IsZip g5 z TI TO .ellipsis := gs5.extBut _ _ D.TOz.symm (gs4.extBut _ _ D.i2z.symm (gs3.extBut _ _ D.TOz.symm (gs2.extBut _ _ D.i1z.symm gz1)))
  have up5 : ∀ c o, c ≠ z → c ≠ TO → c ≠ i1 → c ≠ i2 → s.heap.get? c = some o → g5.get? c = some o := fun c o c1 c2 c3 c4 e => gs5.extBut _ _ c2 (gs4.extBut _ _ c4 (up3 c o c1 c3 c2 e))
  have ki5 : itA t1 g5 i1 l1 (k1 + 1) := itA_at k2' fun o e => gs5.extBut _ _ D.TOi1.symm (gs4.extBut _ _ D.i12 (gs3.extBut _ _ D.TOi1.symm e))
  have kj5 : itA t2 g5 i2 l2 (k2 + 1) := itA_at k4 fun o e => gs5.extBut _ _ D.TOi2.symm e
  have hzl : z < g5.objs.size := Heap.lt_size gz5
  show wpAny _ _ (Builtin.SmallTypes.ownedTupleHandOut (.ref z) (.ref g5.objs.size) >>= _) _ _ _
  refine wpAny_bind ?_
  unfold Builtin.SmallTypes.ownedTupleHandOut
  refine wpAny_bind (wpAny_setField_rec (show IsZip (g5.push { cls := .type "tuple", data := .seq #[x, y] }) z TI TO .ellipsis from Heap.get?_push_of_some _ gz5) (by simp) fun g7 gz7 gs7 => ?_)
  replace gz7 : IsZip g7 z TI TO (rawInt g5.objs.size) := gz7
  refine wpAny_setField_rec gz7 (by simp) fun g8 gz8 gs8 => ?_
  replace gz8 : IsZip g8 z TI TO (rawInt g5.objs.size) := gz8
  have up8 : ∀ c o, c ≠ z → g5.get? c = some o → g8.get? c = some o := fun c o c1 e => gs8.extBut _ _ c1 (gs7.extBut _ _ c1 (Heap.get?_push_of_some _ e))
  have hT8 : IsPair g8 g5.objs.size x y := gs8.extBut _ _ (Nat.ne_of_gt hzl) (gs7.extBut _ _ (Nat.ne_of_gt hzl) (Heap.get?_push_size _ rfl))
  rw [hsz] at gz8 hT8
  refine wpAny_pure ⟨_, rfl, ?_⟩
  rw [hsz]
  exact wpAny_pure (hQ g8 gz8 (up8 _ _ D.TOz gT5) (itA_at ki5 fun o e => up8 _ o D.i1z e) (itA_at kj5 fun o e => up8 _ o D.i2z e) hT8 fun c o c1 c2 c3 c4 e => up8 c o c1 (up5 c o c1 c2 c3 c4 e))
theorem zipA_end {t1 t2 : Bool} {z TI TO i1 i2 l1 l2 : Addr} {k1 k2 : Nat} {xs ys : Array Value} {a b : Value} {Q : Option Value → Shared → Prop} (hh : A.handled = none) (D : ZipApart z TI TO i1 i2 l1 l2)
    (hz : IsZip s.heap z TI TO .none) (hTI : IsPair s.heap TI (.ref i1) (.ref i2)) (hTO : IsPair s.heap TO a b)
    (h1 : itA t1 s.heap i1 l1 k1) (h2 : itA t2 s.heap i2 l2 k2) (hl1 : sqA t1 s.heap l1 xs) (hl2 : sqA t2 s.heap l2 ys) (hend : xs[k1]? = none ∨ ys[k2]? = none)
    (hQ : ∀ h', (∀ c o, c ≠ z → c ≠ TO → c ≠ i1 → c ≠ i2 → s.heap.get? c = some o → h'.get? c = some o) → Q none { s with heap := h' }) : wpAny (model prog w) A (pyNext (.ref z)) Q E s := by
  have hT : s.TypeIs (.ref z) "zip" := ⟨_, hz, rfl⟩
  unfold pyNext
  have fin : ∀ h' e, (∀ c o, c ≠ z → c ≠ TO → c ≠ i1 → c ≠ i2 → s.heap.get? c = some o → h'.get? c = some o) → (∃ o, h'.get? e = some o ∧ o.cls = .type "StopIteration") →
      wpAny (model prog w) A (do if ← isInstance (.ref e) (.type "StopIteration") then pure none else throw (.ref e)) Q E { s with heap := h' } := fun h' e hk ⟨o, ho, hc⟩ =>
    wpAny_bind (wpAny_isInstance (T := "StopIteration") (b := true) ⟨o, ho, hc⟩ isSubtype_stop (wpAny_pure (hQ _ hk)))
  refine wpAny_bind (wpAny_attempt (wpAny_callSpecial?_slot (name := Str.ofString "__next__") hT F.slot_zip_next (wpAny_call_entry F.slot_zip_next hT F.entry_zip_next ?_ (F.args_zip_next_1 _))))
  show wpAny _ _ (field (.ref z) 2 >>= _) _ _ _
  refine wpAny_bind (wpAny_field hz rfl (x := .bool false) rfl ?_)
  show wpAny _ _ (field (.ref z) 3 >>= _) _ _ _
  refine wpAny_bind (wpAny_field hz rfl (x := .ref TI) rfl (wpAny_bind (wpAny_seqItems hTI rfl ?_)))
  show wpAny _ _ (Builtin.SmallTypes.ownedTupleIsFree (.ref z) >>= _) _ _ _
  refine wpAny_bind ?_
  unfold Builtin.SmallTypes.ownedTupleIsFree
  refine wpAny_bind (wpAny_field hz rfl (x := .none) rfl (wpAny_pure ?_))
  simp only [if_true]
  refine wpAny_bind (wpAny_rule (wpAny_bind (wpAny_field hz rfl (x := .ref TO) rfl (wpAny_bind (wpAny_setField_rec hz (by simp) fun g1 gz1 gs1 => ?_)))))
  replace gz1 : IsZip g1 z TI TO .ellipsis := gz1
  have up1 : ∀ c o, c ≠ z → s.heap.get? c = some o → g1.get? c = some o := fun c o h e => gs1.extBut _ _ h e
  refine wpAny_bind ?_
  simp only [List.zipIdx_cons, List.zipIdx_nil, List.forIn_cons, List.forIn_nil]
  refine wpAny_bind (wpAny_bind (wpAny_onRaise ?_))
  show wpAny _ _ (Builtin.SmallTypes.nextOf (.ref i1) >>= _) _ _ _
  cases hx : xs[k1]? with
  | none =>
    refine wpAny_bind (nextA_end hh (itA_at h1 fun o e => up1 _ o D.i1z e) (sqA_at hl1 fun o e => up1 _ o D.l1z e) hx fun g2 e gs2 ⟨oe, hoe, hce⟩ => ?_)
    have gz2 : IsZip g2 z TI TO .ellipsis := gs2 _ _ D.i1z.symm gz1
    have hez : e ≠ z := fun q => by rw [q, gz2] at hoe; cases hoe; simp at hce
    exact wpAny_setField_rec gz2 (by simp) fun g3 _ gs3 => fin g3 e (fun c o c1 _ c3 _ q => gs3.extBut _ _ c1 (gs2 _ _ c3 (up1 c o c1 q))) ⟨oe, gs3.extBut _ _ hez hoe, hce⟩
  | some x =>
    have hy : ys[k2]? = none := hend.elim (fun h => by rw [hx] at h; cases h) id
    refine wpAny_bind (nextA_item (itA_at h1 fun o e => up1 _ o D.i1z e) (sqA_at hl1 fun o e => up1 _ o D.l1z e) hx fun g2 k2' gs2 => wpAny_pure ?_)
    have up2 : ∀ c o, c ≠ z → c ≠ i1 → s.heap.get? c = some o → g2.get? c = some o := fun c o h h' e => gs2.extBut _ _ h' (up1 c o h e)
    refine wpAny_bind (wpAny_seqItems (show IsPair g2 TO a b from up2 _ _ D.TOz D.TOi1 hTO) rfl (wpAny_bind (wpAny_updateSeq_pair (show IsPair g2 TO a b from up2 _ _ D.TOz D.TOi1 hTO) fun g3 gT3 gs3 => ?_)))
    have up3 : ∀ c o, c ≠ z → c ≠ i1 → c ≠ TO → s.heap.get? c = some o → g3.get? c = some o := fun c o h h' h'' e => gs3.extBut _ _ h'' (up2 c o h h' e)
    refine wpAny_bind (wpAny_letGo (wpAny_pure ?_))
    refine wpAny_bind (wpAny_bind (wpAny_onRaise ?_))
    show wpAny _ _ (Builtin.SmallTypes.nextOf (.ref i2) >>= _) _ _ _
    refine wpAny_bind (nextA_end hh (itA_at h2 fun o e => up3 _ o D.i2z D.i12.symm D.TOi2.symm e) (sqA_at hl2 fun o e => up3 _ o D.l2z D.l2i1 D.l2TO e) hy fun g4 e gs4 ⟨oe, hoe, hce⟩ => ?_)
    have gz4 : IsZip g4 z TI TO .ellipsis := gs4 _ _ D.i2z.symm (gs3.extBut _ _ D.TOz.symm (gs2.extBut _ _ D.i1z.symm gz1))
    have hez : e ≠ z := fun q => by rw [q, gz4] at hoe; cases hoe; simp at hce
    exact wpAny_setField_rec gz4 (by simp) fun g5 _ gs5 => fin g5 e (fun c o c1 c2 c3 c4 q => gs5.extBut _ _ c1 (gs4 _ _ c4 (up3 c o c1 c3 c2 q))) ⟨oe, gs5.extBut _ _ hez hoe, hce⟩
end
end TW
set_option Elab.async false
set_option linter.all false
set_option maxRecDepth 100000
set_option maxHeartbeats 4000000
namespace TW
open PySem PySem.Spec PyProof.Rows L2
def itO (t : Bool) (l : Addr) : Obj := match t with
  | true => { cls := .type "tuple_iterator", data := .fields #[.ref l, .int 0 0] }
  | false => { cls := .type "list_iterator", data := .fields #[.ref l, .int 0 0] }
abbrev zm1 (t1 : Bool) (h : Heap) (l1 : Addr) : Heap := h.push (itO t1 l1)
abbrev zm2 (t1 t2 : Bool) (h : Heap) (l1 l2 : Addr) : Heap := (zm1 t1 h l1).push (itO t2 l2)
abbrev zm3 (t1 t2 : Bool) (h : Heap) (l1 l2 : Addr) : Heap := (zm2 t1 t2 h l1 l2).push { cls := .type "tuple", data := .seq #[.ref h.objs.size, .ref (zm1 t1 h l1).objs.size] }
abbrev zm4 (t1 t2 : Bool) (h : Heap) (l1 l2 : Addr) : Heap := (zm3 t1 t2 h l1 l2).push { cls := .type "tuple", data := .seq #[.none, .none] }
abbrev zm5 (t1 t2 : Bool) (h : Heap) (l1 l2 : Addr) : Heap := (zm4 t1 t2 h l1 l2).push { cls := .type "zip", data := .fields #[.none, .bool false, .bool false, .ref (zm2 t1 t2 h l1 l2).objs.size, .ref (zm3 t1 t2 h l1 l2).objs.size] }
theorem zipNewTL (l1 l2 : Addr) (xs ys : Array Value) :
    Meets (Builtin.«zip.__new__» ⟨[.type "zip", .ref l1, .ref l2], []⟩) (fun _ R s => s.heap.IsTuple l1 xs ∧ s.heap.IsList l2 ys ∧
      R (.ok (.ret (.ref (zm4 true false s.heap l1 l2).objs.size))) { s with heap := zm5 true false s.heap l1 l2 }) :=
  .of_wp fun prog w A R s h => by
    obtain ⟨hp, g, d, tk, os⟩ := s; obtain ⟨hl1, hl2, h⟩ := h
    have hsub := sub_zip
    have hL1 : Heap.IsTuple (Shared.heap ⟨hp, g, d, tk, os⟩) l1 xs := hl1
    have hL2 : Heap.IsList (Shared.heap ⟨hp.push { cls := .type "tuple_iterator", data := .fields #[.ref l1, .int 0 0] }, g, d, tk, os⟩) l2 ys := Heap.IsList.push hl2 _
    wp_walk using wpAny_pyIter_tuple hL1, wpAny_pyIter_list hL2
    exact ⟨_, rfl, h⟩
theorem zipNewLT (l1 l2 : Addr) (xs ys : Array Value) :
    Meets (Builtin.«zip.__new__» ⟨[.type "zip", .ref l1, .ref l2], []⟩) (fun _ R s => s.heap.IsList l1 xs ∧ s.heap.IsTuple l2 ys ∧
      R (.ok (.ret (.ref (zm4 false true s.heap l1 l2).objs.size))) { s with heap := zm5 false true s.heap l1 l2 }) :=
  .of_wp fun prog w A R s h => by
    obtain ⟨hp, g, d, tk, os⟩ := s; obtain ⟨hl1, hl2, h⟩ := h
    have hsub := sub_zip
    have hL1 : Heap.IsList (Shared.heap ⟨hp, g, d, tk, os⟩) l1 xs := hl1
    have hL2 : Heap.IsTuple (Shared.heap ⟨hp.push { cls := .type "list_iterator", data := .fields #[.ref l1, .int 0 0] }, g, d, tk, os⟩) l2 ys := Heap.IsTuple.push hl2 _
    wp_walk using wpAny_pyIter_list hL1, wpAny_pyIter_tuple hL2
    exact ⟨_, rfl, h⟩
section
variable {prog : Program} {w : World} {A : Around} {E : Value → Shared → Prop} {s : Shared}
theorem call_zipM {t : Bool} {l1 l2 : Addr} {xs ys : Array Value} {Q : Value → Shared → Prop} (hl1 : sqA t s.heap l1 xs) (hl2 : sqA (!t) s.heap l2 ys)
    (h : ∀ h', IsZip h' (s.heap.objs.size + 4) (s.heap.objs.size + 2) (s.heap.objs.size + 3) .none → IsPair h' (s.heap.objs.size + 2) (.ref s.heap.objs.size) (.ref (s.heap.objs.size + 1)) →
      IsPair h' (s.heap.objs.size + 3) .none .none → itA t h' s.heap.objs.size l1 0 → itA (!t) h' (s.heap.objs.size + 1) l2 0 →
      (∀ c o, s.heap.get? c = some o → h'.get? c = some o) → Q (.ref (s.heap.objs.size + 4)) { s with heap := h' }) :
    wpAny (model prog w) A (call (.type "zip") [.ref l1, .ref l2]) Q E s := by
  have m : ∀ {S : PySem.Spec}, True := fun {_} => True.intro
  have fin : wants Q E (.ok (.ret (.ref (zm4 t (!t) s.heap l1 l2).objs.size))) { s with heap := zm5 t (!t) s.heap l1 l2 } := by
    have z1 : (zm1 t s.heap l1).objs.size = s.heap.objs.size + 1 := Heap.size_push ..
    have z2 : (zm2 t (!t) s.heap l1 l2).objs.size = s.heap.objs.size + 2 := by rw [Heap.size_push, z1]
    have z3 : (zm3 t (!t) s.heap l1 l2).objs.size = s.heap.objs.size + 3 := by rw [Heap.size_push, z2]
    have z4 : (zm4 t (!t) s.heap l1 l2).objs.size = s.heap.objs.size + 4 := by rw [Heap.size_push, z3]
    have fr : ∀ l, (itO t l).isFreed = false ∧ (itO (!t) l).isFreed = false := fun l => by cases t <;> exact ⟨rfl, rfl⟩
    have g5 : (zm5 t (!t) s.heap l1 l2).get? (zm4 t (!t) s.heap l1 l2).objs.size = some _ := Heap.get?_push_size _ rfl
    have g4 : (zm5 t (!t) s.heap l1 l2).get? (zm3 t (!t) s.heap l1 l2).objs.size = some _ := Heap.get?_push_of_some _ (Heap.get?_push_size _ rfl)
    have g3 : (zm5 t (!t) s.heap l1 l2).get? (zm2 t (!t) s.heap l1 l2).objs.size = some _ := Heap.get?_push_of_some _ (Heap.get?_push_of_some _ (Heap.get?_push_size _ rfl))
    have g2 : (zm5 t (!t) s.heap l1 l2).get? (zm1 t s.heap l1).objs.size = some (itO (!t) l2) := Heap.get?_push_of_some _ (Heap.get?_push_of_some _ (Heap.get?_push_of_some _ (Heap.get?_push_size _ (fr l2).2)))
    have g1 : (zm5 t (!t) s.heap l1 l2).get? s.heap.objs.size = some (itO t l1) := Heap.get?_push_of_some _ (Heap.get?_push_of_some _ (Heap.get?_push_of_some _ (Heap.get?_push_of_some _ (Heap.get?_push_size _ (fr l1).1))))
    show Q _ _
    rw [z2, z3, z4] at g5
    rw [z1, z2] at g3
    rw [z3] at g4
    rw [z1] at g2
    rw [z4]
    refine h _ g5 g3 g4 ?_ ?_ fun c o x => Heap.get?_push_of_some _ (Heap.get?_push_of_some _ (Heap.get?_push_of_some _ (Heap.get?_push_of_some _ (Heap.get?_push_of_some _ x))))
    · cases t
      · exact ⟨_, g1, rfl, rfl⟩
      · exact ⟨_, g1, rfl, rfl⟩
    · cases t
      · exact ⟨_, g2, rfl, rfl⟩
      · exact ⟨_, g2, rfl, rfl⟩
  have g5 : (zm5 t (!t) s.heap l1 l2).get? (zm4 t (!t) s.heap l1 l2).objs.size = some _ := Heap.get?_push_size _ rfl
  cases t with
  | true => exact callType_new F.called_zip (by decide) (F.typeCall_zip_2 _ _) (F.newCall_zip_2 _ _) (fun obj => F.args_object_init_3 obj _ _) F.entry_zip_new (zipNewTL l1 l2 xs ys) ⟨hl1, hl2, ⟨_, g5, rfl⟩, fin⟩
  | false => exact callType_new F.called_zip (by decide) (F.typeCall_zip_2 _ _) (F.newCall_zip_2 _ _) (fun obj => F.args_object_init_3 obj _ _) F.entry_zip_new (zipNewLT l1 l2 xs ys) ⟨hl1, hl2, ⟨_, g5, rfl⟩, fin⟩
end
/-- the two items of each turn in a new pair; t: the first is a tuple and the second a list, else the other way round -/
def SqA (K : PySem.W.Frag) (t : Bool) (H : Hp) (a : Addr) (xs : List V) : Prop := match t with
  | true => SqT K H a xs
  | false => SqL K H a xs
def ItzM (K : PySem.W.Frag) (t : Bool) (a b : Addr) : It :=
  ⟨fun i H => ∃ (xs ys : List V) (x y : V), SqA K t H a xs ∧ SqA K (!t) H b ys ∧ xs[i]? = some x ∧ ys[i]? = some y,
    fun i H v H' => ∃ T x y, v = .ref T ∧ H T = none ∧ H' = upd H T (.tup [x, y]) ∧ (∀ xs, SqA K t H a xs → xs[i]? = some x) ∧ ∀ ys, SqA K (!t) H b ys → ys[i]? = some y,
    fun i H => ∃ xs ys : List V, SqA K t H a xs ∧ SqA K (!t) H b ys ∧ (xs.length ≤ i ∨ ys.length ≤ i)⟩
section
variable {X : Cx} {pins : List (Addr × Obj)} {σ : L2.St} {H : Hp} {s : Shared}
theorem sqA_of {t : Bool} {a : Addr} {xs : List V} (I : L2.Inv X pins σ H s) (h : SqA X.K t H a xs) : ∃ its : List Value, Vals xs its ∧ sqA t s.heap a its.toArray := by
  cases t with
  | true => exact let ⟨its, r, p, _⟩ := I.tuple h; ⟨its, r, p⟩
  | false => exact let ⟨its, r, p, _⟩ := I.list h; ⟨its, r, p.isList⟩
theorem sqA_inj {t : Bool} {a : Addr} {xs ys : List V} (I : L2.Inv X pins σ H s) (h : SqA X.K t H a xs) (h' : SqA X.K t H a ys) : xs = ys := by
  cases t with
  | true => exact I.tuple_inj h h'
  | false => exact I.list_inj h h'
end
theorem turn_zipM {P : Program} {w : World} {K : PySem.W.Frag} {t : Bool} {elts : List Expr} {kk : Nat} {tpos : Pos} {a b z TI TO i1 i2 : Addr} (D : ZipApart z TI TO i1 i2 a b) :
    Turn P w K (.Tuple elts kk tpos) (ItzM K t a b) [z, TI, TO, i1, i2] z (fun i h => IsZip h z TI TO .none ∧ IsPair h TI (.ref i1) (.ref i2) ∧ (∃ x y, IsPair h TO x y) ∧ itA t h i1 a i ∧ itA (!t) h i2 b i) where
  mem := by simp
  obj := fun i h st c hc => by
    obtain ⟨hz, hTI, ⟨x, y, hTO⟩, k1, k2⟩ := st
    obtain ⟨o1, e1, d1⟩ := itA_obj k1
    obtain ⟨o2, e2, d2⟩ := itA_obj k2
    have e' : c = z ∨ c = TI ∨ c = TO ∨ c = i1 ∨ c = i2 := by simpa using hc
    rcases e' with q | q | q | q | q
    · rw [q]; exact ⟨_, hz, fun v q => nomatch q⟩
    · rw [q]; exact ⟨_, hTI, fun v q => nomatch q⟩
    · rw [q]; exact ⟨_, hTO, fun v q => nomatch q⟩
    · rw [q]; exact ⟨o1, e1, fun v q => by rw [d1] at q; cases q⟩
    · rw [q]; exact ⟨o2, e2, fun v q => by rw [d2] at q; cases q⟩
  keep := fun i h h' st k => by
    obtain ⟨hz, hTI, ⟨x, y, hTO⟩, h1, h2⟩ := st
    exact ⟨k z (by simp) _ hz, k TI (by simp) _ hTI, ⟨x, y, k TO (by simp) _ hTO⟩, itA_at h1 fun o q => k i1 (by simp) o q, itA_at h2 fun o q => k i2 (by simp) o q⟩
  item := by
    intro X hP hw hK hc i pins s σ H E I hf st hg
    subst hP hw hK
    obtain ⟨hz, hTI, ⟨x0, y0, hTO⟩, h1, h2⟩ := st
    obtain ⟨xs, ys, x, y, hqx, hqy, hx, hy⟩ := hg
    obtain ⟨its, rv, p⟩ := sqA_of I hqx
    obtain ⟨its2, rv2, p2⟩ := sqA_of I hqy
    obtain ⟨u, hu, ru⟩ := rv.get hx
    obtain ⟨u2, hu2, ru2⟩ := rv2.get hy
    have hzl : z < s.heap.objs.size := Heap.lt_size hz
    refine zipA_item D hz hTI hTO h1 h2 p p2 (x := u) (y := u2) (by simpa using hu) (by simpa using hu2) fun h' z' TO' h1' h2' hT hk => ?_
    refine ⟨_, rfl, wpAny_letOwnedTupleGo_zip (s := { s with heap := h' }) z' fun h'' z'' sb => ?_⟩
    have hT2 : h''.get? s.heap.objs.size = some { cls := .type "tuple", data := .seq #[u, u2] } := (sb.2 _ (Nat.ne_of_gt hzl)).trans hT
    have new : ObjOk X.prog X.w (upd H s.heap.objs.size (.tup [x, y])) h'' s.heap.objs.size (.tup [x, y]) :=
      ⟨by show 2 ≤ sizeLine; decide, [u, u2], .cons ru (.cons ru2 .nil), ⟨_, hT2, rfl, _, rfl⟩⟩
    have I1 : L2.Inv X pins σ (upd H s.heap.objs.size (.tup [x, y])) { s with heap := h'' } :=
      I.turnedNew (t' := s.toks) (ch := [z, TI, TO, i1, i2]) (fun c o hb q => (sb.2 c (fun q' => hb (by simp [q']))).trans (hk c o (fun q' => hb (by simp [q'])) (fun q' => hb (by simp [q'])) (fun q' => hb (by simp [q'])) (fun q' => hb (by simp [q'])) q)) hf (Nat.le_refl _) new
    refine ⟨.ref s.heap.objs.size, _, I1, rfl, ⟨_, x, y, rfl, I.hok.fresh (Nat.le_refl _), rfl, fun l hl => by rw [sqA_inj I hl hqx]; exact hx, fun l hl => by rw [sqA_inj I hl hqy]; exact hy⟩, ⟨z'', ?_, ⟨u, u2, ?_⟩, ?_, ?_⟩, fun c hcm => ?_⟩
    · exact (sb.2 _ D.TIz).trans (hk _ _ D.TIz D.TITO D.TIi1 D.TIi2 hTI)
    · exact (sb.2 _ D.TOz).trans TO'
    · exact itA_at h1' fun o q => (sb.2 _ D.i1z).trans q
    · exact itA_at h2' fun o q => (sb.2 _ D.i2z).trans q
    · have hlt : c < s.heap.objs.size := by
        have e' : c = z ∨ c = TI ∨ c = TO ∨ c = i1 ∨ c = i2 := by simpa using hcm
        rcases e' with q | q | q | q | q
        · rw [q]; exact hzl
        · rw [q]; exact Heap.lt_size hTI
        · rw [q]; exact Heap.lt_size hTO
        · rw [q]; obtain ⟨_, e1, _⟩ := itA_obj h1; exact Heap.lt_size e1
        · rw [q]; obtain ⟨_, e2, _⟩ := itA_obj h2; exact Heap.lt_size e2
      rw [upd_ne (Nat.ne_of_lt hlt)]
      exact (hf c hcm).1
  done := by
    intro X hP hw hK hc i pins s σ H E I hf st hg
    subst hP hw hK
    obtain ⟨hz, hTI, ⟨x0, y0, hTO⟩, h1, h2⟩ := st
    obtain ⟨xs, ys, hqx, hqy, hend⟩ := hg
    obtain ⟨its, rv, p⟩ := sqA_of I hqx
    obtain ⟨its2, rv2, p2⟩ := sqA_of I hqy
    have l1 := rv.length
    have l2 := rv2.length
    have he : its.toArray[i]? = none ∨ its2.toArray[i]? = none := by
      rcases hend with q | q
      · exact .inl (by simp; omega)
      · exact .inr (by simp; omega)
    exact zipA_end (I.ok.hd hc) D hz hTI hTO h1 h2 p p2 he fun h' hk => ⟨rfl, I.turnedL (t' := s.toks) (ch := [z, TI, TO, i1, i2]) (fun c o hb q =>
      hk c o (fun q' => hb (by simp [q'])) (fun q' => hb (by simp [q'])) (fun q' => hb (by simp [q'])) (fun q' => hb (by simp [q'])) q) hf⟩
  self := fun A i s Q E st h => wpAny_pyIter_zip st.1 h
/-- for .. in zip(a, b): one of the two is a tuple, the other a list -/
def iZipM (K : PySem.W.Frag) (t : Bool) (ta : TA) : TI := fun σ H R => ta σ H fun vs H1 => ∃ a b xs ys, vs = [.ref a, .ref b] ∧ SqA K t H1 a xs ∧ SqA K (!t) H1 b ys ∧ R (ItzM K t a b) H1
theorem pi_zipM {X : Cx} (t : Bool) {e e2 : Expr} {ta : TA} {p pos tpos : Pos} {elts : List Expr} {kk : Nat} (hg : Gl X "zip") (hm : X.mg "zip" = none) (ha : PA X [e, e2] ta)
    (hs : starEach [e, e2] X.env = (false, eval e X.env) :: starEach [e2] X.env := by rfl) (hpl : (backTo pos (starEach [e2] X.env)).any (·.1) = false := by rfl) :
    PI X (.Tuple elts kk tpos) (.Call (.Name "zip" p) [e, e2] [] pos) (iZipM X.K t ta) := by
  refine ⟨fun pins s σ H R I h => ?_⟩
  refine Call_ (ld_blt I hg hm PyProof.Rows.boot_zip (PyProof.Rows.callWith_type1 (thn (ha.run pos pins s σ H _ I h) fun us s1 ⟨vs, H1, I1, r1, q1⟩ => ?_) hs hpl))
  obtain ⟨a, b, xs, ys, ex, hqx, hqy, q⟩ := q1
  subst ex
  cases r1 with
  | cons r rr =>
    cases rr with
    | cons r' rr =>
      cases rr
      cases r
      cases r'
      have fresh5 : ∀ c, c ∈ [s1.heap.objs.size + 4, s1.heap.objs.size + 2, s1.heap.objs.size + 3, s1.heap.objs.size, s1.heap.objs.size + 1] → FpOk X pins H1 c := fun c hcm => by
        have e' : c = s1.heap.objs.size + 4 ∨ c = s1.heap.objs.size + 2 ∨ c = s1.heap.objs.size + 3 ∨ c = s1.heap.objs.size ∨ c = s1.heap.objs.size + 1 := by simpa using hcm
        have hle : s1.heap.objs.size ≤ c := by
          rcases e' with z | z | z | z | z
          · rw [z]; exact Nat.le_add_right _ _
          · rw [z]; exact Nat.le_add_right _ _
          · rw [z]; exact Nat.le_add_right _ _
          · rw [z]; exact Nat.le_refl _
          · rw [z]; exact Nat.le_add_right _ _
        exact I1.fpOk hle (I1.hok.fresh hle)
      obtain ⟨its, rv, p1⟩ := sqA_of I1 hqx
      obtain ⟨its2, rv2, p2⟩ := sqA_of I1 hqy
      refine call_zipM p1 p2 fun h' hz hTI hTO h1 h2 hk => wpAny_pyIter_zip hz ?_
      have I2 : L2.Inv X pins σ H1 { s1 with heap := h' } := I1.kept (t' := s1.toks) hk
      exact ⟨s1.heap.objs.size + 4, [s1.heap.objs.size + 4, s1.heap.objs.size + 2, s1.heap.objs.size + 3, s1.heap.objs.size, s1.heap.objs.size + 1], _, _, H1, rfl, I2, turn_zipM (PySem.W.ktu_apart s1.heap.objs.size a b (sqA_lt p1) (sqA_lt p2)), ⟨hz, hTI, ⟨_, _, hTO⟩, h1, h2⟩, fresh5, q⟩
end TW
set_option Elab.async false
set_option linter.all false
set_option maxRecDepth 100000
set_option maxHeartbeats 4000000
namespace TW
open PySem PySem.Spec PyProof.Rows L2
section
variable {X : Cx}
/-- one reading or the other -/
theorem PI.or {tg e : Expr} {t u : TI} (h1 : PI X tg e t) (h2 : PI X tg e u) : PI X tg e (fun σ H R => t σ H R ∨ u σ H R) := ⟨fun pins s σ H R I h => h.elim (h1.run pins s σ H R I) (h2.run pins s σ H R I)⟩
theorem OpR.or {f : Value → Value → Sem Value} {r r' : R2} (h1 : OpR X f r) (h2 : OpR X f r') : OpR X f (fun x y H Q => r x y H Q ∨ r' x y H Q) := fun pins s σ H x y v u Q I rx ry h => h.elim (h1 pins s σ H x y v u Q I rx ry) (h2 pins s σ H x y v u Q I rx ry)
theorem CallR.or {f : Value} {r r' : List V → Hp → VK → Prop} (h1 : CallR X f r) (h2 : CallR X f r') : CallR X f (fun xs H Q => r xs H Q ∨ r' xs H Q) := fun pins s σ H xs us Q I rx h => h.elim (h1 pins s σ H xs us Q I rx) (h2 pins s σ H xs us Q I rx)

/-! ### a < b of data -/
def rLtD (K : PySem.W.Frag) : R2 := fun x y H Q => ∃ d e, Dp K H x d ∧ Dp K H y e ∧ PySem.W.alike d e = true ∧ d ≠ .none ∧ d.depth ≤ 40 ∧ Q (.bl (PySem.W.dataLt d e)) H
theorem op_ltD (hu : X.A.units + 64 < cLine) : OpR X (compareOp .Lt) (rLtD X.K) := by
  intro pins s σ H x y v u Q I rx ry h
  obtain ⟨d, e, hd, he, al, nn, dp, q⟩ := h
  obtain ⟨as, r1⟩ := Dp.reads I d x v hd rx
  obtain ⟨bs, r2⟩ := Dp.reads I e y u he ry
  show wpAny (model X.prog X.w) X.A (richCompare .Lt v u) (EP X pins σ Q) X.xe s
  exact PySem.W.rcLt_alike d e X.A s v u as bs r1 r2 al nn (by omega) X.prog X.w _ _ ⟨.bl _, H, I, rfl, q⟩

/-! ### s[::-1] -/
def revS (x : Str) : Str := ⟨x.cps.toList.reverse.toArray⟩
theorem picked_rev (x : Str) (t : Tok) : (slicePicked x none none (some (-1, t))).filterMap (x.cps[·]?) = x.cps.toList.reverse := by
  show (sliceRange ((x.length : Int) - 1) (-1) (-1)).filterMap (x.cps[·]?) = _
  rw [PySem.W.krv_sliceRange, PySem.W.krv_range, List.filterMap_reverse]
  exact congrArg List.reverse (PySem.W.krv_all x.cps)
def tRevS (te : TE) : TE := fun σ H Q => te σ H fun x H1 => ∃ z : Str, x = .str z ∧ z.length ≤ sizeLine ∧ Q (.str (revS z)) H1
theorem pe_revS {e : Expr} {te : TE} {k : Nat} {p1 p2 p3 pos : Pos} (he : PE X e te) : PE X (.Subscript e (.Slice none none (some (.UnaryOp .USub (.Constant (.int 1) k p1) p2)) p3) pos) (tRevS te) := by
  refine ⟨fun pins s σ H Q I h => ?_⟩
  refine Subscript_ (thn (he.run pins s σ H _ I h) fun v s1 ⟨x, H1, I1, r1, z, ex, hz, q⟩ => ?_)
  subst ex
  obtain ⟨tk, rfl⟩ := r1
  have hst : PO X (some (.UnaryOp .USub (.Constant (.int 1) k p1) p2)) (tPart (tUn (rU fun i => .int (-i)) (tC (.int 1)))) := po_some (pe_un un_neg pe_int)
  refine wpAny_Slice (thn (po_none.run pins s1 σ H1 (fun o H2 => o = none ∧ H2 = H1) I1 ⟨rfl, rfl⟩) fun vl s2 ⟨l, H2, I2, pl, el, e2⟩ => ?_)
  subst el e2
  refine thn (po_none.run pins s2 σ H2 (fun o H3 => o = none ∧ H3 = H2) I2 ⟨rfl, rfl⟩) fun vu s3 ⟨u, H3, I3, pu, eu, e3⟩ => ?_
  subst eu e3
  refine thn (hst.run pins s3 σ H3 (fun o H4 => o = some (-1) ∧ H4 = H3) I3 ⟨1, rfl, -1, rfl, rfl, rfl⟩) fun vs s4 ⟨o, H4, I4, ps, eo, e4⟩ => ?_
  subst eo e4
  cases pl
  cases pu
  cases ps with
  | int i t =>
  have I5 : L2.Inv X pins σ H4 { s4 with heap := s4.heap.push { cls := .type "slice", data := .fields #[.none, .none, .int (-1) t] } } := I4.kept (t' := s4.toks) fun b ob q => Heap.get?_push_of_some _ q
  show wpAny (model X.prog X.w) X.A (subscriptTail e (.Slice none none (some (.UnaryOp .USub (.Constant (.int 1) k p1) p2)) p3) (.str z tk) (.ref s4.heap.objs.size)) (EP X pins σ Q) X.xe { s4 with heap := s4.heap.push { cls := .type "slice", data := .fields #[.none, .none, .int (-1) t] } }
  refine tail_any (ops := [.str z tk, .ref s4.heap.objs.size]) (typeIs_str _ _ _) (F.slot_str_getitem.lookup) ?_ (by with_unfolding_all rfl)
  refine wpAny_getItem_str_slice (l := none) (u := none) (st := some (-1, t)) ⟨_, Heap.get?_push_size _ rfl, rfl, rfl⟩ rfl ?_
  unfold sliceMade
  rw [if_neg (by simp)]
  rw [picked_rev]
  exact ⟨by show z.cps.toList.reverse.toArray.size ≤ sizeLine; rw [List.size_toArray, List.length_reverse, Array.length_toList]; exact hz, .str (revS z), H4, I5.tok _, ⟨_, rfl⟩, q⟩
end

/-! ### a method of an instance, run from within a builtin -/
section
variable {X : Cx} {n : Nat} {C : Addr} {m : Str} {sp : Sp}
theorem met_sub (M : C8.Met X.prog X.w X.K X.mg X.base n C m sp []) {A : Around} {pins : List (Addr × Obj)} {s : Shared} {σ : L2.St} {H : Hp} {a : Addr} {Q : VK} (sb : Sub X n A) (I : L2.Inv X pins σ H s) (h : sp [.ref a] H Q C8.E0) :
    ∃ f, PySem.W.findIn X.K (.ref C) m = some (some (.ref f)) ∧ PySem.W.isFn X.K (.ref f) = true ∧ wpAny (model X.prog X.w) A (call (.ref f) [.ref a]) (EP X pins σ Q) X.xe s := by
  obtain ⟨f, fd, ps, ds, hc, hm, F, hb0, hd0⟩ := M.ex
  cases hd0
  refine ⟨f, hm.at_, hm.fn, ?_⟩
  have e0 : Env0 X.prog X.w X.K X.mg X.base A X.stack s H := by
    have e := I.env0
    exact ⟨by rw [sb.fr]; exact e.frames, e.mod, e.bs, e.bsz, e.funs, e.frf, e.hok, e.bare⟩
  have hl := F.len _ _ _ _ h
  have r2 : Vals [V.ref a] [Value.ref a] := .cons rfl .nil
  refine wpAny_call (codeAny_mono (F.run A X.stack s H ⟨[.ref a], []⟩ [.ref a] [.ref a] _ C8.E0 sb.room e0 (by
    have := hb0 s [.ref a] I.kIn (by simpa using hl)
    simpa using this) r2 h) fun r s' hq => ?_)
  cases r with
  | error e => exact False.elim hq
  | ok fl =>
    cases fl with
    | ret w => exact I.after hq
    | next => exact False.elim hq
    | brk => exact False.elim hq
    | cont => exact False.elim hq
/-- len(o), o with its own __len__ -/
def rLenI (C : Addr) (sp : Sp) : List V → Hp → VK → Prop := fun xs H Q => ∃ a dx fs, xs = [V.ref a] ∧ H a = some (.ins C dx fs) ∧ sp [.ref a] H (fun v H' => ∃ i : Int, v = .int i ∧ 0 ≤ i ∧ i < 2 ^ 63 ∧ Q (.int i) H') C8.E0
theorem cr_lenI (M : C8.Met X.prog X.w X.K X.mg X.base n C "__len__" sp []) (hr : Room (n + 1) X.A) : CallR X (.builtin "len") (rLenI C sp) := by
  intro pins s σ H xs us Q I r h
  obtain ⟨a, dx, fs, rfl, ha, h⟩ := h
  rw [Vals.ref1 r]
  obtain ⟨mA, J, _⟩ := ins_get I.hok ha
  obtain ⟨od, J, _⟩ := J.look
  obtain ⟨m, hF⟩ := I.fr
  obtain ⟨f, hs, hf, hw⟩ := met_sub M (A := X.A.in1) (Sub.in1 ⟨hr, rfl⟩) I h
  refine PySem.W.len_K hF I.ok.mod.kin J hs hf (thn hw fun u s' ⟨v, H', I', rv, i, ev, h0, h1, q⟩ => ?_)
  subst ev
  obtain ⟨t, rfl⟩ := rv
  exact ⟨⟨h0, h1⟩, .int i, H', I'.tok _, ⟨_, rfl⟩, q⟩
/-- repr(o), o with its own __repr__ -/
def rTxtI (C : Addr) (sp : Sp) : List V → Hp → VK → Prop := fun xs H Q => ∃ a dx fs, xs = [V.ref a] ∧ H a = some (.ins C dx fs) ∧ sp [.ref a] H (fun v H' => ∃ z : Str, v = .str z ∧ Q (.str z) H') C8.E0
theorem cr_reprI (M : C8.Met X.prog X.w X.K X.mg X.base n C "__repr__" sp []) (hr : Room (n + 1) X.A) : CallR X (.builtin "repr") (rTxtI C sp) := by
  intro pins s σ H xs us Q I r h
  obtain ⟨a, dx, fs, rfl, ha, h⟩ := h
  rw [Vals.ref1 r]
  obtain ⟨mA, J, _⟩ := ins_get I.hok ha
  obtain ⟨od, J, _⟩ := J.look
  obtain ⟨m, hF⟩ := I.fr
  have sb : Sub X n X.A.in1 := Sub.in1 ⟨hr, rfl⟩
  obtain ⟨f, hs, hf, hw⟩ := met_sub M (A := X.A.in1) sb I h
  refine PySem.W.repr_K sb.room.units0 hF I.ok.mod.kin J hs hf (thn hw fun u s' ⟨v, H', I', rv, z, ev, q⟩ => ?_)
  subst ev
  obtain ⟨t, rfl⟩ := rv
  exact ⟨.str z, H', I', ⟨_, rfl⟩, q⟩
/-- str(o), o with its own __str__ -/
theorem cr_strI (M : C8.Met X.prog X.w X.K X.mg X.base n C "__str__" sp []) (hr : Room (n + 2) X.A) : CallR X (.type "str") (rTxtI C sp) := by
  intro pins s σ H xs us Q I r h
  obtain ⟨a, dx, fs, rfl, ha, h⟩ := h
  rw [Vals.ref1 r]
  obtain ⟨mA, J, _⟩ := ins_get I.hok ha
  obtain ⟨od, J, _⟩ := J.look
  have sb : Sub X n X.A.in1.in1 := Sub.in1 (Sub.in1 ⟨hr, rfl⟩)
  obtain ⟨f, hs, hf, hw⟩ := met_sub M (A := X.A.in1.in1) sb I h
  refine PySem.W.kso_call sb.room.units0 I.kIn J hs hf (thn hw fun u s' ⟨v, H', I', rv, z, ev, q⟩ => ?_)
  subst ev
  obtain ⟨t, rfl⟩ := rv
  exact ⟨.str z, H', I', ⟨_, rfl⟩, q⟩
end

/-! ### repr(t) of data: where no repr is under way -/
def rReprD (K : PySem.W.Frag) : List V → Hp → VK → Prop := fun xs H Q => ∃ a d, xs = [V.ref a] ∧ Dp K H (.ref a) d ∧ d.showable = true ∧ d.hasDict = false ∧ d.depth ≤ 40 ∧ d.shown.length ≤ sizeLine ∧ Q (.str d.shown) H
theorem cr_reprD {X : Cx} {k : Nat} (hg : X.A.guards = some []) (hr : Room k X.A) : CallR X (.builtin "repr") (rReprD X.K) := by
  intro pins s σ H xs us Q I r h
  obtain ⟨a, d, rfl, hd, sh, nd, dp, hz, q⟩ := h
  rw [Vals.ref1 r]
  obtain ⟨as, rd⟩ := Dp.reads I d (.ref a) (.ref a) hd rfl
  have hu := hr.units
  refine repr_of_reads' rd sh (fun e => by rw [nd] at e; cases e) hg (by omega) (fun _ _ e => e) (fun h' u tk hk => ⟨.str d.shown, H, I.kept (t' := tk) hk, ⟨u, rfl⟩, q⟩) hz

/-! ### a def that is called where no repr is under way -/
structure FnG (P : Program) (w : World) (K : PySem.W.Frag) (mg : Str → Option Value) (base : Heap) (k : Nat) (f : Addr) (fd : FuncData) (ps : List Str) (sp : Sp) : Prop where
  len : ∀ vs H Q E, sp vs H Q E → vs.length = ps.length
  run : ∀ (A : Around) (outer : List Env) (s : Shared) (H : Hp) (args : Args) (us : List Value) (vs : List V) (Q : VK) (E : XK), A.guards = some [] → Room k A → Env0 P w K mg base A outer s H → BindsTo s fd args (ps.zip us) → Vals vs us → sp vs H Q E →
    codeAny (model P w) A (.call (.ref f) args) (CR C8.CX0 outer P w H s Q E) s
theorem fnG_of {P : Program} {w : World} {K : PySem.W.Frag} {mg : Str → Option Value} {base : Heap} {x qual : Str} {params : Arguments} {body : List Stmt} {scope : Scope} {dvs : List V} {kws : List (Str × V)} {f : Addr} {fd : FuncData} {N ps : List Str} {k : Nat} {sp : Sp}
    (F : FunD K x qual params body scope dvs kws f fd) (S : FnScope N ps scope) (len : ∀ vs H Q E, sp vs H Q E → vs.length = ps.length)
    (hbody : ∀ (cdv : Value) (A : Around) (outer : List Env) (s : Shared) (H : Hp) (vs : List V) (Q : VK) (E : XK), A.guards = some [] → Room k (A.deeper (envOfC qual scope s.heap.objs.size f cdv)) → sp vs H Q E →
      ∃ t, PSs (cxOf C8.CX0 P w K mg base N qual scope f cdv A outer s H E) body t ∧ t { nx := fun _ H' => Q .non H', rt := Q } (start N vs) H) : FnG P w K mg base (k + 1) f fd ps sp := by
  obtain ⟨oc, od, dV, kV, doc, pm, an, cdv, ct, osl, rfl, lk, hcd, _, _⟩ := F.ex
  refine ⟨len, fun A outer s H args us vs Q E hg hr e0 hb r hsp => ?_⟩
  exact LamX.run_ofS lk hcd S hr e0 hb r (len _ _ _ _ hsp) fun hr' => hbody cdv A outer s H vs Q E hg hr' hsp
/-- f(..) of such a def -/
theorem pe_callG {X : Cx} {k : Nat} {f : Addr} {fd : FuncData} {ps : List Str} {sp : Sp} {x : Str} {p pos : Pos} {e : Expr} {es : List Expr} {t : TA} (F : FnG X.prog X.w X.K X.mg X.base k f fd ps sp) (hG : X.A.guards = some []) (hr : Room k X.A) (hg : Gl X x) (hm : X.mg x = some (.ref f)) (hk : PySem.W.keepIn X.K (.ref f) = true) (hb : Binds X.K fd ps [])
    (ha : PA X (e :: es) t) (hdb : (x == ("__debug__" : Str)) = false := by decide) (he : starEach (e :: es) X.env = (false, eval e X.env) :: starEach es X.env := by rfl) (hpl : (backTo pos (starEach es X.env)).any (·.1) = false := by rfl) :
    PE X (.Call (.Name x p) (e :: es) [] pos) (tCall sp [] C8.E0 t) := by
  refine ⟨fun pins s σ H Q I h => ?_⟩
  refine wpAny_Call_Name_kw (ld_glob I hg hm ?_ hdb)
  refine PySem.W.callWith_K (h₀ := X.base) I.ok.mod.kin hk (thn (ha.run pos pins s σ H _ I h) fun us s1 ⟨vs, H1, I1, r, q⟩ => ⟨I1.kIn, ?_⟩) he hpl
  have q : sp (vs ++ []) H1 Q C8.E0 := q
  rw [List.append_nil] at q
  have hl : us.length = ps.length := by rw [← r.length]; exact F.len _ _ _ _ q
  refine wpAny_call (codeAny_mono (F.run X.A X.stack s1 H1 ⟨us, []⟩ us vs Q C8.E0 hG hr I1.env0 (by
    have := hb s1 us I1.kIn (by simpa using hl)
    simpa using this) r q) fun r s' hq => ?_)
  cases r with
  | error e => exact False.elim hq
  | ok fl =>
    cases fl with
    | ret w => exact I1.after hq
    | next => exact False.elim hq
    | brk => exact False.elim hq
    | cont => exact False.elim hq
end TW
set_option Elab.async false
set_option linter.all false
set_option maxRecDepth 100000
set_option maxHeartbeats 4000000
namespace TW
open PySem PySem.Spec PyProof.Rows L2
/-! ### frames -/
/-- all that is tracked outside S is as it was -/
def Kp (S : Addr → Prop) (H H' : Hp) : Prop := ∀ b o, ¬ S b → H b = some o → H' b = some o
theorem Kp.rfl' {S : Addr → Prop} {H : Hp} : Kp S H H := fun _ _ _ h => h
theorem Kp.trans {S : Addr → Prop} {H H1 H2 : Hp} (a : Kp S H H1) (b : Kp S H1 H2) : Kp S H H2 := fun c o n h => b c o n (a c o n h)
theorem Kp.of {S : Addr → Prop} {H H' : Hp} (e : Ext H H') : Kp S H H' := fun b o _ h => e b o h
theorem Kp.ext {H H' : Hp} (e : Kp (fun _ => False) H H') : Ext H H' := fun b o h => e b o (fun z => z) h
theorem Kp.mono {S S' : Addr → Prop} {H H' : Hp} (e : Kp S H H') (h : ∀ b, S b → S' b) : Kp S' H H' := fun b o n => e b o fun z => n (h b z)
theorem Kp.new {S : Addr → Prop} {H H' : Hp} {p : Addr} {o : HO} (e : Kp S H H') (h : H' p = none) : Kp S H (upd H' p o) := fun b u n hb => by
  rw [upd_ne (ne_of_none (e b u n hb) h)]
  exact e b u n hb
/-- an object that H does not know may change -/
theorem Kp.mut {S : Addr → Prop} {H H' : Hp} {p : Addr} {o : HO} (e : Kp S H H') (h : H p = none) : Kp S H (upd H' p o) := fun b u n hb => by
  rw [upd_ne (ne_of_none hb h)]
  exact e b u n hb
theorem Kp.at_ {S : Addr → Prop} {H H' : Hp} {p : Addr} {o : HO} (e : Kp S H H') (h : S p) : Kp S H (upd H' p o) := fun b u n hb => by
  rw [upd_ne (fun z => n (by rw [z]; exact h))]
  exact e b u n hb
theorem Kp.free {S : Addr → Prop} {H H' : Hp} {p : Addr} (e : Kp S H H') (h : H' p = none) (n : ¬ S p) : H p = none := by
  cases q : H p with
  | none => rfl
  | some o => rw [e p o n q] at h; cases h
theorem Ext.free {H H' : Hp} {p : Addr} (e : Ext H H') (h : H' p = none) : H p = none := by
  cases q : H p with
  | none => rfl
  | some o => rw [e p o q] at h; cases h
theorem Ext.mut {H H' : Hp} {p : Addr} {o : HO} (e : Ext H H') (h : H p = none) : Ext H (upd H' p o) := fun b u hb => by
  rw [upd_ne (ne_of_none hb h)]
  exact e b u hb
/-- tuples and instances -/
def imm : HO → Bool
  | .tup _ => true
  | .ins _ _ _ => true
  | _ => false
def Imm (H H' : Hp) : Prop := ∀ b o, H b = some o → imm o = true → H' b = some o
theorem Imm.rfl' {H : Hp} : Imm H H := fun _ _ h _ => h
theorem Imm.trans {H H1 H2 : Hp} (a : Imm H H1) (b : Imm H1 H2) : Imm H H2 := fun c o h i => b c o (a c o h i) i
theorem Imm.of {H H' : Hp} (e : Ext H H') : Imm H H' := fun b o h _ => e b o h
theorem Imm.upd {H : Hp} {p : Addr} {o : HO} (h : ∀ o', H p = some o' → imm o' = false) : Imm H (upd H p o) := fun b u hb i => by
  have ne : b ≠ p := fun z => by
    rw [z] at hb
    have := h u hb
    rw [i] at this
    cases this
  rw [upd_ne ne]
  exact hb
theorem Imm.kp {S : Addr → Prop} {H H' : Hp} (e : Kp S H H') (h : ∀ b o, S b → H b = some o → imm o = false) : Imm H H' := fun b o hb i => by
  refine e b o (fun z => ?_) hb
  have := h b o z hb
  rw [i] at this
  cases this

/-! ### what is walked -/
structure Src (J : It) (n : Nat) (ok : Hp → Prop) (y : Nat → Hp → V → Hp → Prop) : Prop where
  go : ∀ i H, ok H → i < n → J.go i H
  yld : ∀ i H v H', ok H → i < n → J.yld i H v H' → y i H v H'
  stop : ∀ i H, ok H → n ≤ i → J.stop i H
theorem src_list {K : PySem.W.Frag} {a : Addr} {xs : List V} : Src (Itl K a) xs.length (fun H => SqL K H a xs) (fun i H v H' => H' = H ∧ xs[i]? = some v) :=
  ⟨fun i H q h => ⟨xs, xs[i], q, by simp [h]⟩, fun i H v H' q h y => ⟨y.1, y.2 xs q⟩, fun i H q h => ⟨xs, q, h⟩⟩
theorem src_tup {K : PySem.W.Frag} {a : Addr} {xs : List V} : Src (Itt K a) xs.length (fun H => SqT K H a xs) (fun i H v H' => H' = H ∧ xs[i]? = some v) :=
  ⟨fun i H q h => ⟨xs, xs[i], q, by simp [h]⟩, fun i H v H' q h y => ⟨y.1, y.2 xs q⟩, fun i H q h => ⟨xs, q, h⟩⟩
theorem src_range {lo : Int} {n : Nat} : Src (Itr lo n) n (fun _ => True) (fun i H v H' => H' = H ∧ v = .int (lo + i)) :=
  ⟨fun i H _ h => h, fun i H v H' _ h y => y, fun i H _ h => h⟩
theorem src_str {x : Str} : Src (Its x) x.cps.size (fun _ => True) (fun i H v H' => H' = H ∧ ∃ c, x.cps[i]? = some c ∧ v = .str ⟨#[c]⟩) :=
  ⟨fun i H _ h => h, fun i H v H' _ h y => y, fun i H _ h => h⟩
theorem src_keysT {d : Addr} {o : Obj} {kvs : List (List Key × V)} : Src (Itkt d o kvs) kvs.length (fun H => H d = some (.frz o (.dT kvs))) (fun i H x H' => H' = H ∧ ∃ (k : List Key) (v : V) (q : Addr), kvs[i]? = some (k, v) ∧ x = .ref q ∧ H q = some (.tup (k.map kV))) :=
  ⟨fun i H q h => ⟨q, h⟩, fun i H v H' q h y => y, fun i H q h => ⟨q, h⟩⟩
theorem src_itemsT {d : Addr} {o : Obj} {kvs : List (List Key × V)} : Src (ItiT d o kvs) kvs.length (fun H => H d = some (.frz o (.dT kvs)))
    (fun i H x H' => ∃ T b k v, kvs[i]? = some (k, v) ∧ x = .ref T ∧ H T = none ∧ H b = some (.tup (k.map kV)) ∧ H' = upd H T (.tup [.ref b, v])) :=
  ⟨fun i H q h => ⟨q, h⟩, fun i H v H' q h y => y, fun i H q h => ⟨q, h⟩⟩
abbrev YZip (xs ys : List V) : Nat → Hp → V → Hp → Prop := fun i H v H' => ∃ T x y, v = .ref T ∧ H T = none ∧ H' = upd H T (.tup [x, y]) ∧ xs[i]? = some x ∧ ys[i]? = some y
theorem src_zipL {K : PySem.W.Frag} {a b : Addr} {xs ys : List V} {n : Nat} (h1 : n = xs.length) (h2 : n = ys.length) : Src (Itz K a b) n (fun H => SqL K H a xs ∧ SqL K H b ys) (YZip xs ys) :=
  ⟨fun i H q h => ⟨xs, ys, xs[i], ys[i], q.1, q.2, by simp, by simp⟩, fun i H v H' q h y => let ⟨T, x, z, e, n, u, a1, a2⟩ := y; ⟨T, x, z, e, n, u, a1 xs q.1, a2 ys q.2⟩, fun i H q h => ⟨xs, ys, q.1, q.2, .inl (by omega)⟩⟩
theorem src_zipT {K : PySem.W.Frag} {a b : Addr} {xs ys : List V} {n : Nat} (h1 : n ≤ xs.length) (h2 : n ≤ ys.length) (h3 : xs.length = n ∨ ys.length = n) : Src (RZ.ItzT K a b) n (fun H => SqT K H a xs ∧ SqT K H b ys) (YZip xs ys) :=
  ⟨fun i H q h => ⟨xs, ys, xs[i], ys[i], q.1, q.2, by simp, by simp⟩, fun i H v H' q h y => let ⟨T, x, z, e, n, u, a1, a2⟩ := y; ⟨T, x, z, e, n, u, a1 xs q.1, a2 ys q.2⟩, fun i H q h => ⟨xs, ys, q.1, q.2, by omega⟩⟩
theorem src_zipM {K : PySem.W.Frag} {t : Bool} {a b : Addr} {xs ys : List V} {n : Nat} (h1 : n = xs.length) (h2 : n = ys.length) : Src (ItzM K t a b) n (fun H => SqA K t H a xs ∧ SqA K (!t) H b ys) (YZip xs ys) :=
  ⟨fun i H q h => ⟨xs, ys, xs[i], ys[i], q.1, q.2, by simp, by simp⟩, fun i H v H' q h y => let ⟨T, x, z, e, n, u, a1, a2⟩ := y; ⟨T, x, z, e, n, u, a1 xs q.1, a2 ys q.2⟩, fun i H q h => ⟨xs, ys, q.1, q.2, .inl (by omega)⟩⟩

/-- a for -/
theorem for_src {J : It} {n : Nat} {ok : Hp → Prop} {y : Nat → Hp → V → Hp → Prop} (src : Src J n ok y) {g : TG} {tb : TS} {D : Ends} {σ : L2.St} {H : Hp} (Pv : Nat → L2.St → Hp → Prop) (h0 : Pv 0 σ H) (hok : ∀ i σ H, i ≤ n → Pv i σ H → ok H)
    (hs : ∀ i x σ H H', i < n → Pv i σ H → y i H x H' → g x σ H' fun σ2 H2 => tb { D with nx := Pv (i + 1), ct := Pv (i + 1), bk := D.nx } σ2 H2) (hd : ∀ σ H, Pv n σ H → D.nx σ H) :
    ∃ W : Nat → Nat → L2.St → Hp → Prop, (∃ m, W 0 m σ H) ∧ ∀ i m σ H, W i m σ H →
      (J.stop i H ∧ D.nx σ H) ∨ (J.go i H ∧ ∃ N : L2.St → Hp → Prop, (∀ σ' H', N σ' H' → ∃ m', m' < m ∧ W (i + 1) m' σ' H') ∧ ∀ x H', J.yld i H x H' → g x σ H' fun σ2 H2 => tb { D with nx := N, ct := N, bk := D.nx } σ2 H2) := by
  refine ⟨fun i m σ H => m = n - i ∧ i ≤ n ∧ Pv i σ H, ⟨n, by simp, Nat.zero_le _, h0⟩, ?_⟩
  rintro i m σ H ⟨rfl, hi, p⟩
  have q := hok i σ H hi p
  by_cases hlt : i < n
  · exact .inr ⟨src.go i H q hlt, Pv (i + 1), fun σ' H' p' => ⟨n - (i + 1), by omega, rfl, hlt, p'⟩, fun x H' z => hs i x σ H H' hlt p (src.yld i H x H' q hlt z)⟩
  · have e : i = n := by omega
    subst e
    exact .inl ⟨src.stop _ H q (Nat.le_refl _), hd σ H p⟩
/-- a comprehension -/
theorem lc_src {J : It} {n : Nat} {ok : Hp → Prop} {y : Nat → Hp → V → Hp → Prop} (src : Src J n ok y) {g : TG} {tt : TT} {te : TE} {vs : List Nat} {σ : L2.St} {H1 : Hp} {D : Addr} {Qd : Hp → Prop} (Pv : Nat → Hp → Prop) (h0 : Pv 0 (upd H1 D (.lst []))) (hok : ∀ i H, i ≤ n → Pv i H → ok H)
    (hs : ∀ i x H H', i < n → Pv i H → y i H x H' → g x (wipe σ vs) H' fun σ2 H2 => wipe σ2 vs = wipe σ vs ∧ tt σ2 H2 fun b H3 =>
      if b = true then te σ2 H3 fun y H4 => ∃ acc, H4 D = some (.lst acc) ∧ acc.length < sizeLine ∧ Pv (i + 1) (upd H4 D (.lst (acc ++ [y]))) else Pv (i + 1) H3) (hd : ∀ H, Pv n H → Qd H) :
    ∃ W : Nat → Nat → Hp → Prop, (∃ m, W 0 m (upd H1 D (.lst []))) ∧ ∀ i m H, W i m H →
      (J.stop i H ∧ Qd H) ∨ (J.go i H ∧ ∃ Nx : Hp → Prop, (∀ H', Nx H' → ∃ m', m' < m ∧ W (i + 1) m' H') ∧ ∀ x H', J.yld i H x H' → g x (wipe σ vs) H' fun σ2 H2 => wipe σ2 vs = wipe σ vs ∧ tt σ2 H2 fun b H3 =>
        if b = true then te σ2 H3 fun y H4 => ∃ acc, H4 D = some (.lst acc) ∧ acc.length < sizeLine ∧ Nx (upd H4 D (.lst (acc ++ [y]))) else Nx H3) := by
  refine ⟨fun i m H => m = n - i ∧ i ≤ n ∧ Pv i H, ⟨n, by simp, Nat.zero_le _, h0⟩, ?_⟩
  rintro i m H ⟨rfl, hi, p⟩
  have q := hok i H hi p
  by_cases hlt : i < n
  · exact .inr ⟨src.go i H q hlt, Pv (i + 1), fun H' p' => ⟨n - (i + 1), by omega, rfl, hlt, p'⟩, fun x H' z => hs i x H H' hlt p (src.yld i H x H' q hlt z)⟩
  · have e : i = n := by omega
    subst e
    exact .inl ⟨src.stop _ H q (Nat.le_refl _), hd H p⟩
/-- a comprehension that makes one item each turn: R of each item, Jv what else a turn keeps, S what the turns may change -/
theorem lc_map {J : It} {n : Nat} {ok : Hp → Prop} {y : Nat → Hp → V → Hp → Prop} (src : Src J n ok y) {g : TG} {te : TE} {vs : List Nat} {σ : L2.St} {H1 : Hp} {D : Addr} {Qd : Hp → Prop} (S : Addr → Prop) (R : Nat → V → Hp → Prop) (Jv : Nat → Hp → Prop)
    (hD : H1 D = none) (hS : ¬ S D) (hn : n ≤ sizeLine) (hR : ∀ i z H H', Imm H H' → R i z H → R i z H') (hJ : ∀ i H o, Jv i H → Jv i (upd H D o)) (h0 : Jv 0 H1) (hok : ∀ i H, i ≤ n → Kp S H1 H → Jv i H → ok H) (hI : ∀ i H H', Jv i H → Kp S H H' → Imm H H')
    (hs : ∀ i x H H', i < n → Kp S H1 H → Jv i H → y i H x H' → ∀ Q : VK, (∀ z H4, Kp S H H4 → R i z H4 → Jv (i + 1) H4 → Q z H4) → g x (wipe σ vs) H' fun σ2 H2 => wipe σ2 vs = wipe σ vs ∧ te σ2 H2 Q)
    (hd : ∀ H zs, Kp S H1 H → H D = some (.lst zs) → zs.length = n → (∀ i z, zs[i]? = some z → R i z H) → Jv n H → Qd H) :
    ∃ W : Nat → Nat → Hp → Prop, (∃ m, W 0 m (upd H1 D (.lst []))) ∧ ∀ i m H, W i m H →
      (J.stop i H ∧ Qd H) ∨ (J.go i H ∧ ∃ Nx : Hp → Prop, (∀ H', Nx H' → ∃ m', m' < m ∧ W (i + 1) m' H') ∧ ∀ x H', J.yld i H x H' → g x (wipe σ vs) H' fun σ2 H2 => wipe σ2 vs = wipe σ vs ∧ tYes σ2 H2 fun b H3 =>
        if b = true then te σ2 H3 fun y H4 => ∃ acc, H4 D = some (.lst acc) ∧ acc.length < sizeLine ∧ Nx (upd H4 D (.lst (acc ++ [y]))) else Nx H3) := by
  refine lc_src src (fun i H => ∃ acc, H D = some (.lst acc) ∧ acc.length = i ∧ (∀ j z, acc[j]? = some z → R j z H) ∧ Kp S H1 H ∧ Jv i H) ⟨[], upd_same, rfl, (fun j z h => by simp at h), Kp.rfl'.mut hD, hJ _ _ _ h0⟩ (fun i H hi ⟨acc, _, _, _, k, j⟩ => hok i H hi k j) (fun i x H H' hi ⟨acc, hacc, hl, hr, k, j⟩ hy => ?_) fun H ⟨acc, hacc, hl, hr, k, j⟩ => hd H acc k hacc hl hr j
  refine hs i x H H' hi k j hy _ fun z H4 k4 r4 j4 => ?_
  have hD4 : H4 D = some (.lst acc) := k4 D _ hS hacc
  refine ⟨acc, hD4, by omega, acc ++ [z], upd_same, by rw [List.length_append, List.length_singleton]; omega, fun j' z' hz => ?_, (k.trans k4).mut hD, hJ _ _ _ j4⟩
  have im : Imm H4 (upd H4 D (.lst (acc ++ [z]))) := Imm.upd fun o' e => by rw [hD4] at e; rw [← Option.some.inj e]; rfl
  by_cases hj : j' < acc.length
  · rw [List.getElem?_append_left hj] at hz
    exact hR _ _ _ _ im (hR _ _ _ _ (hI i H H4 j k4) (hr j' z' hz))
  · rw [List.getElem?_append_right (by omega)] at hz
    have e : j' - acc.length = 0 := by
      rcases Nat.eq_zero_or_pos (j' - acc.length) with h | h
      · exact h
      · rw [List.getElem?_eq_none (by simp; omega)] at hz
        cases hz
    rw [e] at hz
    have ez : z = z' := by simpa using hz
    have ei : j' = i := by omega
    rw [← ez, ei]
    exact hR _ _ _ _ im r4
end TW
set_option Elab.async false
set_option linter.all false
set_option maxRecDepth 100000
set_option maxHeartbeats 4000000
namespace TW
open PySem PySem.Spec PyProof.Rows L2
/-! ### the text: where each def stands -/
def sLET : Str := "abcdefghijklmnopqrstuvwxyz"
def sSIG : Str := "abcdefghijklmnopqrstuvwxyzABCDEFGHIJKLMNOPQRSTUVWXYZ0123456789 '-."
def sCOD : Str := "ABCDEFGHIJKLMNOPQRSTUVWXYZ0123456789"
def top (i : Nat) : Stmt := PySem.Challenge.pw_takesworks_k81_whole_lists_are_one.main.body.getD i (.Pass ⟨0, 0, 0, 0⟩)
abbrev s_is_whole : Stmt := top 8
abbrev s_is_from : Stmt := top 9
abbrev s_is_word : Stmt := top 10
abbrev s_is_between : Stmt := top 14
abbrev s_is_long_year : Stmt := top 15
abbrev s_days_in : Stmt := top 16
abbrev s_are_parts : Stmt := top 17
abbrev s_Day_init : Stmt := inClass (top 18) 0
abbrev s_Day_eq : Stmt := inClass (top 18) 1
abbrev s_Day_str : Stmt := inClass (top 18) 2
abbrev s_Day_repr : Stmt := inClass (top 18) 3
abbrev s_parts_of : Stmt := top 19
abbrev s_Length_init : Stmt := inClass (top 23) 0
abbrev s_Length_eq : Stmt := inClass (top 23) 1
abbrev s_Length_str : Stmt := inClass (top 23) 2
abbrev s_Length_repr : Stmt := inClass (top 23) 3
abbrev s_is_called : Stmt := top 27
abbrev s_is_name : Stmt := top 28
abbrev s_is_code : Stmt := top 34
abbrev s_are_players : Stmt := top 35
abbrev s_is_key : Stmt := top 36
abbrev s_is_entry : Stmt := top 37
abbrev s_field_of : Stmt := top 38
abbrev s_key_of : Stmt := top 39
abbrev s_show_name : Stmt := top 41
abbrev s_show_key : Stmt := top 42
abbrev s_show_entry : Stmt := top 43
abbrev s_rank_of : Stmt := top 46
abbrev s_told_alone : Stmt := top 47
abbrev s_Listing_init : Stmt := inClass (top 48) 0
abbrev s_Listing_put : Stmt := inClass (top 48) 1
abbrev s_Listing_told : Stmt := inClass (top 48) 2
abbrev s_Listing_pieces : Stmt := inClass (top 48) 3
abbrev s_Listing_joined : Stmt := inClass (top 48) 4
abbrev s_Listing_sure : Stmt := inClass (top 48) 5
abbrev s_Listing_entries : Stmt := inClass (top 48) 6
abbrev s_Listing_clashes : Stmt := inClass (top 48) 7
abbrev s_Listing_eq : Stmt := inClass (top 48) 8
abbrev s_Listing_len : Stmt := inClass (top 48) 9
abbrev s_Listing_str : Stmt := inClass (top 48) 10
abbrev s_Listing_repr : Stmt := inClass (top 48) 11
abbrev s_law_hand : Stmt := top 50
abbrev s_law_take : Stmt := top 51
abbrev s_law_pick : Stmt := top 52
abbrev s_law_signs : Stmt := top 53
abbrev s_law_text : Stmt := top 54
abbrev s_law_tongue : Stmt := top 55
abbrev s_law_names : Stmt := top 56
abbrev s_law_days : Stmt := top 57
abbrev s_law_codes : Stmt := top 58
abbrev s_law_pools : Stmt := top 59
abbrev s_law_word : Stmt := top 60
abbrev s_law_keys : Stmt := top 61
abbrev s_law_entry : Stmt := top 62
abbrev s_law_mark : Stmt := top 63
abbrev s_law_due : Stmt := top 64
abbrev s_law_fields : Stmt := top 65
abbrev s_law_told_right : Stmt := top 66
abbrev s_law_marked : Stmt := top 67
abbrev s_law_sums_right : Stmt := top 68
abbrev s_law_lists : Stmt := top 69
abbrev s_law_grouped : Stmt := top 70
abbrev s_law_ways : Stmt := top 71
abbrev s_law_one : Stmt := top 72
abbrev s_law_key : Stmt := top 73
abbrev s_law : Stmt := top 74
abbrev mkD (x : Str) (st : Stmt) : He.DefD := ⟨(x, none), x, x, defArgs st, defBody st, defScope st, [], []⟩
abbrev mkM (C m q : Str) (st : Stmt) (dfl : List He.Dv) : He.DefD := ⟨(C, some m), m, q, defArgs st, defBody st, defScope st, dfl, []⟩
def fn : List He.DefD := [mkD "is_whole" s_is_whole,
  mkD "is_from" s_is_from,
  mkD "is_word" s_is_word,
  mkD "is_between" s_is_between,
  mkD "is_long_year" s_is_long_year,
  mkD "days_in" s_days_in,
  mkD "are_parts" s_are_parts,
  mkM "Day" "__init__" "Day.__init__" s_Day_init [.non, .non],
  mkM "Day" "__eq__" "Day.__eq__" s_Day_eq [],
  mkM "Day" "__str__" "Day.__str__" s_Day_str [],
  mkM "Day" "__repr__" "Day.__repr__" s_Day_repr [],
  mkD "parts_of" s_parts_of,
  mkM "Length" "__init__" "Length.__init__" s_Length_init [],
  mkM "Length" "__eq__" "Length.__eq__" s_Length_eq [],
  mkM "Length" "__str__" "Length.__str__" s_Length_str [],
  mkM "Length" "__repr__" "Length.__repr__" s_Length_repr [],
  mkD "is_called" s_is_called,
  mkD "is_name" s_is_name,
  mkD "is_code" s_is_code,
  mkD "are_players" s_are_players,
  mkD "is_key" s_is_key,
  mkD "is_entry" s_is_entry,
  mkD "field_of" s_field_of,
  mkD "key_of" s_key_of,
  mkD "show_name" s_show_name,
  mkD "show_key" s_show_key,
  mkD "show_entry" s_show_entry,
  mkD "rank_of" s_rank_of,
  mkD "told_alone" s_told_alone,
  mkM "Listing" "__init__" "Listing.__init__" s_Listing_init [.non],
  mkM "Listing" "put" "Listing.put" s_Listing_put [],
  mkM "Listing" "told" "Listing.told" s_Listing_told [],
  mkM "Listing" "pieces" "Listing.pieces" s_Listing_pieces [],
  mkM "Listing" "joined" "Listing.joined" s_Listing_joined [],
  mkM "Listing" "sure" "Listing.sure" s_Listing_sure [],
  mkM "Listing" "entries" "Listing.entries" s_Listing_entries [],
  mkM "Listing" "clashes" "Listing.clashes" s_Listing_clashes [],
  mkM "Listing" "__eq__" "Listing.__eq__" s_Listing_eq [],
  mkM "Listing" "__len__" "Listing.__len__" s_Listing_len [],
  mkM "Listing" "__str__" "Listing.__str__" s_Listing_str [],
  mkM "Listing" "__repr__" "Listing.__repr__" s_Listing_repr [],
  mkD "_law_hand" s_law_hand,
  mkD "_law_take" s_law_take,
  mkD "_law_pick" s_law_pick,
  mkD "_law_signs" s_law_signs,
  mkD "_law_text" s_law_text,
  mkD "_law_tongue" s_law_tongue,
  mkD "_law_names" s_law_names,
  mkD "_law_days" s_law_days,
  mkD "_law_codes" s_law_codes,
  mkD "_law_pools" s_law_pools,
  mkD "_law_word" s_law_word,
  mkD "_law_keys" s_law_keys,
  mkD "_law_entry" s_law_entry,
  mkD "_law_mark" s_law_mark,
  mkD "_law_due" s_law_due,
  mkD "_law_fields" s_law_fields,
  mkD "_law_told_right" s_law_told_right,
  mkD "_law_marked" s_law_marked,
  mkD "_law_sums_right" s_law_sums_right,
  mkD "_law_lists" s_law_lists,
  mkD "_law_grouped" s_law_grouped,
  mkD "_law_ways" s_law_ways,
  mkD "_law_one" s_law_one,
  mkD "_law_key" s_law_key,
  mkD "law" s_law]
def fa : List He.Fa := [.glo "is_whole",
  .glo "is_from",
  .glo "is_word",
  .glo "is_between",
  .glo "is_long_year",
  .glo "days_in",
  .glo "are_parts",
  .glo "parts_of",
  .glo "is_called",
  .glo "is_name",
  .glo "is_code",
  .glo "are_players",
  .glo "is_key",
  .glo "is_entry",
  .glo "field_of",
  .glo "key_of",
  .glo "show_name",
  .glo "show_key",
  .glo "show_entry",
  .glo "rank_of",
  .glo "told_alone",
  .glo "_law_hand",
  .glo "_law_take",
  .glo "_law_pick",
  .glo "_law_signs",
  .glo "_law_text",
  .glo "_law_tongue",
  .glo "_law_names",
  .glo "_law_days",
  .glo "_law_codes",
  .glo "_law_pools",
  .glo "_law_word",
  .glo "_law_keys",
  .glo "_law_entry",
  .glo "_law_mark",
  .glo "_law_due",
  .glo "_law_fields",
  .glo "_law_told_right",
  .glo "_law_marked",
  .glo "_law_sums_right",
  .glo "_law_lists",
  .glo "_law_grouped",
  .glo "_law_ways",
  .glo "_law_one",
  .glo "_law_key",
  .glo "law",
  .glo "Day",
  .glo "Length",
  .glo "Listing",
  .glo "FIELDS",
  .glo "MONTHS",
  .free "isinstance",
  .free "len",
  .free "all",
  .free "any",
  .free "sorted",
  .free "abs",
  .free "max",
  .free "min",
  .free "divmod",
  .free "repr",
  .free "int",
  .free "bool",
  .free "str",
  .free "tuple",
  .free "list",
  .free "dict",
  .free "zip",
  .free "range",
  .int "MOST_LETTERS" 8,
  .int "MOST_YEAR" 9999,
  .int "MOST_SECONDS" 359999,
  .int "MINUTE" 60,
  .int "MOST_SIGNS_names" 40,
  .int "MOST_SIGNS_entries" 12,
  .int "MOST_PLAYERS" 8,
  .int "PARTLESS" 0,
  .str "LETTERS" "abcdefghijklmnopqrstuvwxyz",
  .str "SIGNS" "abcdefghijklmnopqrstuvwxyzABCDEFGHIJKLMNOPQRSTUVWXYZ0123456789 '-.",
  .str "CODE_SIGNS" "ABCDEFGHIJKLMNOPQRSTUVWXYZ0123456789",
  .cls "Day",
  .mkr "Day",
  .noat "Day" "year",
  .noat "Day" "month",
  .noat "Day" "day",
  .meth "Day" "__init__",
  .meth "Day" "__eq__",
  .meth "Day" "__str__",
  .meth "Day" "__repr__",
  .cls "Length",
  .mkr "Length",
  .noat "Length" "seconds",
  .meth "Length" "__init__",
  .meth "Length" "__eq__",
  .meth "Length" "__str__",
  .meth "Length" "__repr__",
  .cls "Listing",
  .mkr "Listing",
  .noat "Listing" "things",
  .meth "Listing" "__init__",
  .meth "Listing" "put",
  .meth "Listing" "told",
  .meth "Listing" "pieces",
  .meth "Listing" "joined",
  .meth "Listing" "sure",
  .meth "Listing" "entries",
  .meth "Listing" "clashes",
  .meth "Listing" "__eq__",
  .meth "Listing" "__len__",
  .meth "Listing" "__str__",
  .meth "Listing" "__repr__"]
/-- what isinstance answers -/
def kits (K : PySem.W.Frag) : List (Value × Value × Bool) := [(.type "int", .type "int", true), (.type "int", .type "bool", false), (.type "str", .type "str", true), (.type "tuple", .type "tuple", true), (.type "list", .type "list", true), (.type "str", .ref (He.ga K "Day"), false), (.type "str", .ref (He.ga K "Length"), false), (.type "tuple", .ref (He.ga K "Day"), false), (.type "tuple", .ref (He.ga K "Length"), false), (.ref (He.ga K "Day"), .ref (He.ga K "Day"), true), (.ref (He.ga K "Day"), .ref (He.ga K "Length"), false), (.ref (He.ga K "Length"), .ref (He.ga K "Day"), false), (.ref (He.ga K "Length"), .ref (He.ga K "Length"), true), (.ref (He.ga K "Listing"), .ref (He.ga K "Listing"), true)]
def ownB (K : PySem.W.Frag) (c : Str) : Bool := He.eqO (PySem.W.findIn K (.ref (He.ga K c)) "__class__") (some (some (.builtin "object.__class__"))) && decide (PySem.W.mroIn K (He.ga K c) (.type "object") = some true)
def tupDB (K : PySem.W.Frag) (x : Str) : Bool := match K.lookup (He.ga K x) with
  | some o => decide (o.cls = .type "tuple") && decide (o.dict = none)
  | none => false
def exB (K : PySem.W.Frag) : Bool := tupDB K "FIELDS" && ((He.tupB K "FIELDS" [.str "code", .str "title", .str "players", .str "day", .str "length"]) && ((He.tupB K "MONTHS" ([31, 28, 31, 30, 31, 30, 31, 31, 30, 31, 30, 31].map fun i => He.Dv.int i)) && (((kits K).all (fun t => decide (PySem.W.kitOne K t.1 t.2.1 = some t.2.2))) && ((ownB K "Day") && ((ownB K "Length") && ((ownB K "Listing") && ((He.eqO (PySem.W.specialIn K (.builtin "object.__class__") "__get__") (some (some (.builtin "getset_descriptor.__get__")))) && (decide (PySem.W.takesIn K (.builtin "object.__class__") = some true)))))))))
/-- what the walks take of the head -/
structure Txt (K : PySem.W.Frag) (mg : Str → Option Value) : Prop where
  fact : ∀ (i : Nat) (f : He.Fa), fa[i]? = some f → f.ok K = true
  defs : ∀ (i : Nat) (d : He.DefD), fn[i]? = some d → ∃ fd, FunD K d.name d.qual d.params d.body d.scope (d.dvs K) (d.kws K) (He.fAd K d.at_) fd
  glo : ∀ (i : Nat) (x : Str), fa[i]? = some (.glo x) → mg x = some (.ref (He.ga K x))
  free : ∀ (i : Nat) (x : Str), fa[i]? = some (.free x) → mg x = none
  int : ∀ (i : Nat) (x : Str) (v : Int), fa[i]? = some (.int x v) → ∃ t, mg x = some (.int v t)
  str : ∀ (i : Nat) (x v : Str), fa[i]? = some (.str x v) → ∃ t, mg x = some (.str v t)
  ex : exB K = true
abbrev cDay (K : PySem.W.Frag) : Addr := He.ga K "Day"
abbrev cLength (K : PySem.W.Frag) : Addr := He.ga K "Length"
abbrev cListing (K : PySem.W.Frag) : Addr := He.ga K "Listing"
section
variable {K : PySem.W.Frag} {mg : Str → Option Value}
theorem Txt.g_is_whole (T : Txt K mg) : mg "is_whole" = some (.ref (He.ga K "is_whole")) := T.glo 0 _ rfl
theorem Txt.g_is_from (T : Txt K mg) : mg "is_from" = some (.ref (He.ga K "is_from")) := T.glo 1 _ rfl
theorem Txt.g_is_word (T : Txt K mg) : mg "is_word" = some (.ref (He.ga K "is_word")) := T.glo 2 _ rfl
theorem Txt.g_is_between (T : Txt K mg) : mg "is_between" = some (.ref (He.ga K "is_between")) := T.glo 3 _ rfl
theorem Txt.g_is_long_year (T : Txt K mg) : mg "is_long_year" = some (.ref (He.ga K "is_long_year")) := T.glo 4 _ rfl
theorem Txt.g_days_in (T : Txt K mg) : mg "days_in" = some (.ref (He.ga K "days_in")) := T.glo 5 _ rfl
theorem Txt.g_are_parts (T : Txt K mg) : mg "are_parts" = some (.ref (He.ga K "are_parts")) := T.glo 6 _ rfl
theorem Txt.g_parts_of (T : Txt K mg) : mg "parts_of" = some (.ref (He.ga K "parts_of")) := T.glo 7 _ rfl
theorem Txt.g_is_called (T : Txt K mg) : mg "is_called" = some (.ref (He.ga K "is_called")) := T.glo 8 _ rfl
theorem Txt.g_is_name (T : Txt K mg) : mg "is_name" = some (.ref (He.ga K "is_name")) := T.glo 9 _ rfl
theorem Txt.g_is_code (T : Txt K mg) : mg "is_code" = some (.ref (He.ga K "is_code")) := T.glo 10 _ rfl
theorem Txt.g_are_players (T : Txt K mg) : mg "are_players" = some (.ref (He.ga K "are_players")) := T.glo 11 _ rfl
theorem Txt.g_is_key (T : Txt K mg) : mg "is_key" = some (.ref (He.ga K "is_key")) := T.glo 12 _ rfl
theorem Txt.g_is_entry (T : Txt K mg) : mg "is_entry" = some (.ref (He.ga K "is_entry")) := T.glo 13 _ rfl
theorem Txt.g_field_of (T : Txt K mg) : mg "field_of" = some (.ref (He.ga K "field_of")) := T.glo 14 _ rfl
theorem Txt.g_key_of (T : Txt K mg) : mg "key_of" = some (.ref (He.ga K "key_of")) := T.glo 15 _ rfl
theorem Txt.g_show_name (T : Txt K mg) : mg "show_name" = some (.ref (He.ga K "show_name")) := T.glo 16 _ rfl
theorem Txt.g_show_key (T : Txt K mg) : mg "show_key" = some (.ref (He.ga K "show_key")) := T.glo 17 _ rfl
theorem Txt.g_show_entry (T : Txt K mg) : mg "show_entry" = some (.ref (He.ga K "show_entry")) := T.glo 18 _ rfl
theorem Txt.g_rank_of (T : Txt K mg) : mg "rank_of" = some (.ref (He.ga K "rank_of")) := T.glo 19 _ rfl
theorem Txt.g_told_alone (T : Txt K mg) : mg "told_alone" = some (.ref (He.ga K "told_alone")) := T.glo 20 _ rfl
theorem Txt.g_law_hand (T : Txt K mg) : mg "_law_hand" = some (.ref (He.ga K "_law_hand")) := T.glo 21 _ rfl
theorem Txt.g_law_take (T : Txt K mg) : mg "_law_take" = some (.ref (He.ga K "_law_take")) := T.glo 22 _ rfl
theorem Txt.g_law_pick (T : Txt K mg) : mg "_law_pick" = some (.ref (He.ga K "_law_pick")) := T.glo 23 _ rfl
theorem Txt.g_law_signs (T : Txt K mg) : mg "_law_signs" = some (.ref (He.ga K "_law_signs")) := T.glo 24 _ rfl
theorem Txt.g_law_text (T : Txt K mg) : mg "_law_text" = some (.ref (He.ga K "_law_text")) := T.glo 25 _ rfl
theorem Txt.g_law_tongue (T : Txt K mg) : mg "_law_tongue" = some (.ref (He.ga K "_law_tongue")) := T.glo 26 _ rfl
theorem Txt.g_law_names (T : Txt K mg) : mg "_law_names" = some (.ref (He.ga K "_law_names")) := T.glo 27 _ rfl
theorem Txt.g_law_days (T : Txt K mg) : mg "_law_days" = some (.ref (He.ga K "_law_days")) := T.glo 28 _ rfl
theorem Txt.g_law_codes (T : Txt K mg) : mg "_law_codes" = some (.ref (He.ga K "_law_codes")) := T.glo 29 _ rfl
theorem Txt.g_law_pools (T : Txt K mg) : mg "_law_pools" = some (.ref (He.ga K "_law_pools")) := T.glo 30 _ rfl
theorem Txt.g_law_word (T : Txt K mg) : mg "_law_word" = some (.ref (He.ga K "_law_word")) := T.glo 31 _ rfl
theorem Txt.g_law_keys (T : Txt K mg) : mg "_law_keys" = some (.ref (He.ga K "_law_keys")) := T.glo 32 _ rfl
theorem Txt.g_law_entry (T : Txt K mg) : mg "_law_entry" = some (.ref (He.ga K "_law_entry")) := T.glo 33 _ rfl
theorem Txt.g_law_mark (T : Txt K mg) : mg "_law_mark" = some (.ref (He.ga K "_law_mark")) := T.glo 34 _ rfl
theorem Txt.g_law_due (T : Txt K mg) : mg "_law_due" = some (.ref (He.ga K "_law_due")) := T.glo 35 _ rfl
theorem Txt.g_law_fields (T : Txt K mg) : mg "_law_fields" = some (.ref (He.ga K "_law_fields")) := T.glo 36 _ rfl
theorem Txt.g_law_told_right (T : Txt K mg) : mg "_law_told_right" = some (.ref (He.ga K "_law_told_right")) := T.glo 37 _ rfl
theorem Txt.g_law_marked (T : Txt K mg) : mg "_law_marked" = some (.ref (He.ga K "_law_marked")) := T.glo 38 _ rfl
theorem Txt.g_law_sums_right (T : Txt K mg) : mg "_law_sums_right" = some (.ref (He.ga K "_law_sums_right")) := T.glo 39 _ rfl
theorem Txt.g_law_lists (T : Txt K mg) : mg "_law_lists" = some (.ref (He.ga K "_law_lists")) := T.glo 40 _ rfl
theorem Txt.g_law_grouped (T : Txt K mg) : mg "_law_grouped" = some (.ref (He.ga K "_law_grouped")) := T.glo 41 _ rfl
theorem Txt.g_law_ways (T : Txt K mg) : mg "_law_ways" = some (.ref (He.ga K "_law_ways")) := T.glo 42 _ rfl
theorem Txt.g_law_one (T : Txt K mg) : mg "_law_one" = some (.ref (He.ga K "_law_one")) := T.glo 43 _ rfl
theorem Txt.g_law_key (T : Txt K mg) : mg "_law_key" = some (.ref (He.ga K "_law_key")) := T.glo 44 _ rfl
theorem Txt.g_law (T : Txt K mg) : mg "law" = some (.ref (He.ga K "law")) := T.glo 45 _ rfl
theorem Txt.g_Day (T : Txt K mg) : mg "Day" = some (.ref (He.ga K "Day")) := T.glo 46 _ rfl
theorem Txt.g_Length (T : Txt K mg) : mg "Length" = some (.ref (He.ga K "Length")) := T.glo 47 _ rfl
theorem Txt.g_Listing (T : Txt K mg) : mg "Listing" = some (.ref (He.ga K "Listing")) := T.glo 48 _ rfl
theorem Txt.g_FIELDS (T : Txt K mg) : mg "FIELDS" = some (.ref (He.ga K "FIELDS")) := T.glo 49 _ rfl
theorem Txt.g_MONTHS (T : Txt K mg) : mg "MONTHS" = some (.ref (He.ga K "MONTHS")) := T.glo 50 _ rfl
theorem Txt.f_isinstance (T : Txt K mg) : mg "isinstance" = none := T.free 51 _ rfl
theorem Txt.f_len (T : Txt K mg) : mg "len" = none := T.free 52 _ rfl
theorem Txt.f_all (T : Txt K mg) : mg "all" = none := T.free 53 _ rfl
theorem Txt.f_any (T : Txt K mg) : mg "any" = none := T.free 54 _ rfl
theorem Txt.f_sorted (T : Txt K mg) : mg "sorted" = none := T.free 55 _ rfl
theorem Txt.f_abs (T : Txt K mg) : mg "abs" = none := T.free 56 _ rfl
theorem Txt.f_max (T : Txt K mg) : mg "max" = none := T.free 57 _ rfl
theorem Txt.f_min (T : Txt K mg) : mg "min" = none := T.free 58 _ rfl
theorem Txt.f_divmod (T : Txt K mg) : mg "divmod" = none := T.free 59 _ rfl
theorem Txt.f_repr (T : Txt K mg) : mg "repr" = none := T.free 60 _ rfl
theorem Txt.f_int (T : Txt K mg) : mg "int" = none := T.free 61 _ rfl
theorem Txt.f_bool (T : Txt K mg) : mg "bool" = none := T.free 62 _ rfl
theorem Txt.f_str (T : Txt K mg) : mg "str" = none := T.free 63 _ rfl
theorem Txt.f_tuple (T : Txt K mg) : mg "tuple" = none := T.free 64 _ rfl
theorem Txt.f_list (T : Txt K mg) : mg "list" = none := T.free 65 _ rfl
theorem Txt.f_dict (T : Txt K mg) : mg "dict" = none := T.free 66 _ rfl
theorem Txt.f_zip (T : Txt K mg) : mg "zip" = none := T.free 67 _ rfl
theorem Txt.f_range (T : Txt K mg) : mg "range" = none := T.free 68 _ rfl
theorem Txt.k_MOST_LETTERS (T : Txt K mg) : ∃ t, mg "MOST_LETTERS" = some (.int 8 t) := T.int 69 _ _ rfl
theorem Txt.k_MOST_YEAR (T : Txt K mg) : ∃ t, mg "MOST_YEAR" = some (.int 9999 t) := T.int 70 _ _ rfl
theorem Txt.k_MOST_SECONDS (T : Txt K mg) : ∃ t, mg "MOST_SECONDS" = some (.int 359999 t) := T.int 71 _ _ rfl
theorem Txt.k_MINUTE (T : Txt K mg) : ∃ t, mg "MINUTE" = some (.int 60 t) := T.int 72 _ _ rfl
theorem Txt.k_MOST_SIGNS_names (T : Txt K mg) : ∃ t, mg "MOST_SIGNS_names" = some (.int 40 t) := T.int 73 _ _ rfl
theorem Txt.k_MOST_SIGNS_entries (T : Txt K mg) : ∃ t, mg "MOST_SIGNS_entries" = some (.int 12 t) := T.int 74 _ _ rfl
theorem Txt.k_MOST_PLAYERS (T : Txt K mg) : ∃ t, mg "MOST_PLAYERS" = some (.int 8 t) := T.int 75 _ _ rfl
theorem Txt.k_PARTLESS (T : Txt K mg) : ∃ t, mg "PARTLESS" = some (.int 0 t) := T.int 76 _ _ rfl
theorem Txt.k_LETTERS (T : Txt K mg) : ∃ t, mg "LETTERS" = some (.str sLET t) := T.str 77 _ _ rfl
theorem Txt.k_SIGNS (T : Txt K mg) : ∃ t, mg "SIGNS" = some (.str sSIG t) := T.str 78 _ _ rfl
theorem Txt.k_CODE_SIGNS (T : Txt K mg) : ∃ t, mg "CODE_SIGNS" = some (.str sCOD t) := T.str 79 _ _ rfl
theorem Txt.c_Day (T : Txt K mg) : Cls K (He.ga K "Day") := He.cls_ok (T.fact 80 _ rfl)
theorem Txt.m_Day (T : Txt K mg) : Mk K (He.ga K "Day") (He.ma K (He.ga K "Day") "__init__") := He.mkr_ok (T.fact 81 _ rfl)
theorem Txt.n_Day_year (T : Txt K mg) : NoAttr K (He.ga K "Day") "year" := He.noat_ok (T.fact 82 _ rfl)
theorem Txt.n_Day_month (T : Txt K mg) : NoAttr K (He.ga K "Day") "month" := He.noat_ok (T.fact 83 _ rfl)
theorem Txt.n_Day_day (T : Txt K mg) : NoAttr K (He.ga K "Day") "day" := He.noat_ok (T.fact 84 _ rfl)
theorem Txt.t_Day_init (T : Txt K mg) : Meth K (He.ga K "Day") "__init__" (He.ma K (He.ga K "Day") "__init__") := He.meth_ok (T.fact 85 _ rfl)
theorem Txt.t_Day_eq (T : Txt K mg) : Meth K (He.ga K "Day") "__eq__" (He.ma K (He.ga K "Day") "__eq__") := He.meth_ok (T.fact 86 _ rfl)
theorem Txt.t_Day_str (T : Txt K mg) : Meth K (He.ga K "Day") "__str__" (He.ma K (He.ga K "Day") "__str__") := He.meth_ok (T.fact 87 _ rfl)
theorem Txt.t_Day_repr (T : Txt K mg) : Meth K (He.ga K "Day") "__repr__" (He.ma K (He.ga K "Day") "__repr__") := He.meth_ok (T.fact 88 _ rfl)
theorem Txt.c_Length (T : Txt K mg) : Cls K (He.ga K "Length") := He.cls_ok (T.fact 89 _ rfl)
theorem Txt.m_Length (T : Txt K mg) : Mk K (He.ga K "Length") (He.ma K (He.ga K "Length") "__init__") := He.mkr_ok (T.fact 90 _ rfl)
theorem Txt.n_Length_seconds (T : Txt K mg) : NoAttr K (He.ga K "Length") "seconds" := He.noat_ok (T.fact 91 _ rfl)
theorem Txt.t_Length_init (T : Txt K mg) : Meth K (He.ga K "Length") "__init__" (He.ma K (He.ga K "Length") "__init__") := He.meth_ok (T.fact 92 _ rfl)
theorem Txt.t_Length_eq (T : Txt K mg) : Meth K (He.ga K "Length") "__eq__" (He.ma K (He.ga K "Length") "__eq__") := He.meth_ok (T.fact 93 _ rfl)
theorem Txt.t_Length_str (T : Txt K mg) : Meth K (He.ga K "Length") "__str__" (He.ma K (He.ga K "Length") "__str__") := He.meth_ok (T.fact 94 _ rfl)
theorem Txt.t_Length_repr (T : Txt K mg) : Meth K (He.ga K "Length") "__repr__" (He.ma K (He.ga K "Length") "__repr__") := He.meth_ok (T.fact 95 _ rfl)
theorem Txt.c_Listing (T : Txt K mg) : Cls K (He.ga K "Listing") := He.cls_ok (T.fact 96 _ rfl)
theorem Txt.m_Listing (T : Txt K mg) : Mk K (He.ga K "Listing") (He.ma K (He.ga K "Listing") "__init__") := He.mkr_ok (T.fact 97 _ rfl)
theorem Txt.n_Listing_things (T : Txt K mg) : NoAttr K (He.ga K "Listing") "things" := He.noat_ok (T.fact 98 _ rfl)
theorem Txt.t_Listing_init (T : Txt K mg) : Meth K (He.ga K "Listing") "__init__" (He.ma K (He.ga K "Listing") "__init__") := He.meth_ok (T.fact 99 _ rfl)
theorem Txt.t_Listing_put (T : Txt K mg) : Meth K (He.ga K "Listing") "put" (He.ma K (He.ga K "Listing") "put") := He.meth_ok (T.fact 100 _ rfl)
theorem Txt.t_Listing_told (T : Txt K mg) : Meth K (He.ga K "Listing") "told" (He.ma K (He.ga K "Listing") "told") := He.meth_ok (T.fact 101 _ rfl)
theorem Txt.t_Listing_pieces (T : Txt K mg) : Meth K (He.ga K "Listing") "pieces" (He.ma K (He.ga K "Listing") "pieces") := He.meth_ok (T.fact 102 _ rfl)
theorem Txt.t_Listing_joined (T : Txt K mg) : Meth K (He.ga K "Listing") "joined" (He.ma K (He.ga K "Listing") "joined") := He.meth_ok (T.fact 103 _ rfl)
theorem Txt.t_Listing_sure (T : Txt K mg) : Meth K (He.ga K "Listing") "sure" (He.ma K (He.ga K "Listing") "sure") := He.meth_ok (T.fact 104 _ rfl)
theorem Txt.t_Listing_entries (T : Txt K mg) : Meth K (He.ga K "Listing") "entries" (He.ma K (He.ga K "Listing") "entries") := He.meth_ok (T.fact 105 _ rfl)
theorem Txt.t_Listing_clashes (T : Txt K mg) : Meth K (He.ga K "Listing") "clashes" (He.ma K (He.ga K "Listing") "clashes") := He.meth_ok (T.fact 106 _ rfl)
theorem Txt.t_Listing_eq (T : Txt K mg) : Meth K (He.ga K "Listing") "__eq__" (He.ma K (He.ga K "Listing") "__eq__") := He.meth_ok (T.fact 107 _ rfl)
theorem Txt.t_Listing_len (T : Txt K mg) : Meth K (He.ga K "Listing") "__len__" (He.ma K (He.ga K "Listing") "__len__") := He.meth_ok (T.fact 108 _ rfl)
theorem Txt.t_Listing_str (T : Txt K mg) : Meth K (He.ga K "Listing") "__str__" (He.ma K (He.ga K "Listing") "__str__") := He.meth_ok (T.fact 109 _ rfl)
theorem Txt.t_Listing_repr (T : Txt K mg) : Meth K (He.ga K "Listing") "__repr__" (He.ma K (He.ga K "Listing") "__repr__") := He.meth_ok (T.fact 110 _ rfl)
theorem Txt.d_is_whole (T : Txt K mg) : ∃ fd, FunD K "is_whole" "is_whole" (defArgs s_is_whole) (defBody s_is_whole) (defScope s_is_whole) [] [] (He.ga K "is_whole") fd := T.defs 0 _ rfl
theorem Txt.d_is_from (T : Txt K mg) : ∃ fd, FunD K "is_from" "is_from" (defArgs s_is_from) (defBody s_is_from) (defScope s_is_from) [] [] (He.ga K "is_from") fd := T.defs 1 _ rfl
theorem Txt.d_is_word (T : Txt K mg) : ∃ fd, FunD K "is_word" "is_word" (defArgs s_is_word) (defBody s_is_word) (defScope s_is_word) [] [] (He.ga K "is_word") fd := T.defs 2 _ rfl
theorem Txt.d_is_between (T : Txt K mg) : ∃ fd, FunD K "is_between" "is_between" (defArgs s_is_between) (defBody s_is_between) (defScope s_is_between) [] [] (He.ga K "is_between") fd := T.defs 3 _ rfl
theorem Txt.d_is_long_year (T : Txt K mg) : ∃ fd, FunD K "is_long_year" "is_long_year" (defArgs s_is_long_year) (defBody s_is_long_year) (defScope s_is_long_year) [] [] (He.ga K "is_long_year") fd := T.defs 4 _ rfl
theorem Txt.d_days_in (T : Txt K mg) : ∃ fd, FunD K "days_in" "days_in" (defArgs s_days_in) (defBody s_days_in) (defScope s_days_in) [] [] (He.ga K "days_in") fd := T.defs 5 _ rfl
theorem Txt.d_are_parts (T : Txt K mg) : ∃ fd, FunD K "are_parts" "are_parts" (defArgs s_are_parts) (defBody s_are_parts) (defScope s_are_parts) [] [] (He.ga K "are_parts") fd := T.defs 6 _ rfl
theorem Txt.d_Day_init (T : Txt K mg) : ∃ fd, FunD K "__init__" "Day.__init__" (defArgs s_Day_init) (defBody s_Day_init) (defScope s_Day_init) [V.non, V.non] [] (He.ma K (He.ga K "Day") "__init__") fd := T.defs 7 _ rfl
theorem Txt.d_Day_eq (T : Txt K mg) : ∃ fd, FunD K "__eq__" "Day.__eq__" (defArgs s_Day_eq) (defBody s_Day_eq) (defScope s_Day_eq) [] [] (He.ma K (He.ga K "Day") "__eq__") fd := T.defs 8 _ rfl
theorem Txt.d_Day_str (T : Txt K mg) : ∃ fd, FunD K "__str__" "Day.__str__" (defArgs s_Day_str) (defBody s_Day_str) (defScope s_Day_str) [] [] (He.ma K (He.ga K "Day") "__str__") fd := T.defs 9 _ rfl
theorem Txt.d_Day_repr (T : Txt K mg) : ∃ fd, FunD K "__repr__" "Day.__repr__" (defArgs s_Day_repr) (defBody s_Day_repr) (defScope s_Day_repr) [] [] (He.ma K (He.ga K "Day") "__repr__") fd := T.defs 10 _ rfl
theorem Txt.d_parts_of (T : Txt K mg) : ∃ fd, FunD K "parts_of" "parts_of" (defArgs s_parts_of) (defBody s_parts_of) (defScope s_parts_of) [] [] (He.ga K "parts_of") fd := T.defs 11 _ rfl
theorem Txt.d_Length_init (T : Txt K mg) : ∃ fd, FunD K "__init__" "Length.__init__" (defArgs s_Length_init) (defBody s_Length_init) (defScope s_Length_init) [] [] (He.ma K (He.ga K "Length") "__init__") fd := T.defs 12 _ rfl
theorem Txt.d_Length_eq (T : Txt K mg) : ∃ fd, FunD K "__eq__" "Length.__eq__" (defArgs s_Length_eq) (defBody s_Length_eq) (defScope s_Length_eq) [] [] (He.ma K (He.ga K "Length") "__eq__") fd := T.defs 13 _ rfl
theorem Txt.d_Length_str (T : Txt K mg) : ∃ fd, FunD K "__str__" "Length.__str__" (defArgs s_Length_str) (defBody s_Length_str) (defScope s_Length_str) [] [] (He.ma K (He.ga K "Length") "__str__") fd := T.defs 14 _ rfl
theorem Txt.d_Length_repr (T : Txt K mg) : ∃ fd, FunD K "__repr__" "Length.__repr__" (defArgs s_Length_repr) (defBody s_Length_repr) (defScope s_Length_repr) [] [] (He.ma K (He.ga K "Length") "__repr__") fd := T.defs 15 _ rfl
theorem Txt.d_is_called (T : Txt K mg) : ∃ fd, FunD K "is_called" "is_called" (defArgs s_is_called) (defBody s_is_called) (defScope s_is_called) [] [] (He.ga K "is_called") fd := T.defs 16 _ rfl
theorem Txt.d_is_name (T : Txt K mg) : ∃ fd, FunD K "is_name" "is_name" (defArgs s_is_name) (defBody s_is_name) (defScope s_is_name) [] [] (He.ga K "is_name") fd := T.defs 17 _ rfl
theorem Txt.d_is_code (T : Txt K mg) : ∃ fd, FunD K "is_code" "is_code" (defArgs s_is_code) (defBody s_is_code) (defScope s_is_code) [] [] (He.ga K "is_code") fd := T.defs 18 _ rfl
theorem Txt.d_are_players (T : Txt K mg) : ∃ fd, FunD K "are_players" "are_players" (defArgs s_are_players) (defBody s_are_players) (defScope s_are_players) [] [] (He.ga K "are_players") fd := T.defs 19 _ rfl
theorem Txt.d_is_key (T : Txt K mg) : ∃ fd, FunD K "is_key" "is_key" (defArgs s_is_key) (defBody s_is_key) (defScope s_is_key) [] [] (He.ga K "is_key") fd := T.defs 20 _ rfl
theorem Txt.d_is_entry (T : Txt K mg) : ∃ fd, FunD K "is_entry" "is_entry" (defArgs s_is_entry) (defBody s_is_entry) (defScope s_is_entry) [] [] (He.ga K "is_entry") fd := T.defs 21 _ rfl
theorem Txt.d_field_of (T : Txt K mg) : ∃ fd, FunD K "field_of" "field_of" (defArgs s_field_of) (defBody s_field_of) (defScope s_field_of) [] [] (He.ga K "field_of") fd := T.defs 22 _ rfl
theorem Txt.d_key_of (T : Txt K mg) : ∃ fd, FunD K "key_of" "key_of" (defArgs s_key_of) (defBody s_key_of) (defScope s_key_of) [] [] (He.ga K "key_of") fd := T.defs 23 _ rfl
theorem Txt.d_show_name (T : Txt K mg) : ∃ fd, FunD K "show_name" "show_name" (defArgs s_show_name) (defBody s_show_name) (defScope s_show_name) [] [] (He.ga K "show_name") fd := T.defs 24 _ rfl
theorem Txt.d_show_key (T : Txt K mg) : ∃ fd, FunD K "show_key" "show_key" (defArgs s_show_key) (defBody s_show_key) (defScope s_show_key) [] [] (He.ga K "show_key") fd := T.defs 25 _ rfl
theorem Txt.d_show_entry (T : Txt K mg) : ∃ fd, FunD K "show_entry" "show_entry" (defArgs s_show_entry) (defBody s_show_entry) (defScope s_show_entry) [] [] (He.ga K "show_entry") fd := T.defs 26 _ rfl
theorem Txt.d_rank_of (T : Txt K mg) : ∃ fd, FunD K "rank_of" "rank_of" (defArgs s_rank_of) (defBody s_rank_of) (defScope s_rank_of) [] [] (He.ga K "rank_of") fd := T.defs 27 _ rfl
theorem Txt.d_told_alone (T : Txt K mg) : ∃ fd, FunD K "told_alone" "told_alone" (defArgs s_told_alone) (defBody s_told_alone) (defScope s_told_alone) [] [] (He.ga K "told_alone") fd := T.defs 28 _ rfl
theorem Txt.d_Listing_init (T : Txt K mg) : ∃ fd, FunD K "__init__" "Listing.__init__" (defArgs s_Listing_init) (defBody s_Listing_init) (defScope s_Listing_init) [V.non] [] (He.ma K (He.ga K "Listing") "__init__") fd := T.defs 29 _ rfl
theorem Txt.d_Listing_put (T : Txt K mg) : ∃ fd, FunD K "put" "Listing.put" (defArgs s_Listing_put) (defBody s_Listing_put) (defScope s_Listing_put) [] [] (He.ma K (He.ga K "Listing") "put") fd := T.defs 30 _ rfl
theorem Txt.d_Listing_told (T : Txt K mg) : ∃ fd, FunD K "told" "Listing.told" (defArgs s_Listing_told) (defBody s_Listing_told) (defScope s_Listing_told) [] [] (He.ma K (He.ga K "Listing") "told") fd := T.defs 31 _ rfl
theorem Txt.d_Listing_pieces (T : Txt K mg) : ∃ fd, FunD K "pieces" "Listing.pieces" (defArgs s_Listing_pieces) (defBody s_Listing_pieces) (defScope s_Listing_pieces) [] [] (He.ma K (He.ga K "Listing") "pieces") fd := T.defs 32 _ rfl
theorem Txt.d_Listing_joined (T : Txt K mg) : ∃ fd, FunD K "joined" "Listing.joined" (defArgs s_Listing_joined) (defBody s_Listing_joined) (defScope s_Listing_joined) [] [] (He.ma K (He.ga K "Listing") "joined") fd := T.defs 33 _ rfl
theorem Txt.d_Listing_sure (T : Txt K mg) : ∃ fd, FunD K "sure" "Listing.sure" (defArgs s_Listing_sure) (defBody s_Listing_sure) (defScope s_Listing_sure) [] [] (He.ma K (He.ga K "Listing") "sure") fd := T.defs 34 _ rfl
theorem Txt.d_Listing_entries (T : Txt K mg) : ∃ fd, FunD K "entries" "Listing.entries" (defArgs s_Listing_entries) (defBody s_Listing_entries) (defScope s_Listing_entries) [] [] (He.ma K (He.ga K "Listing") "entries") fd := T.defs 35 _ rfl
theorem Txt.d_Listing_clashes (T : Txt K mg) : ∃ fd, FunD K "clashes" "Listing.clashes" (defArgs s_Listing_clashes) (defBody s_Listing_clashes) (defScope s_Listing_clashes) [] [] (He.ma K (He.ga K "Listing") "clashes") fd := T.defs 36 _ rfl
theorem Txt.d_Listing_eq (T : Txt K mg) : ∃ fd, FunD K "__eq__" "Listing.__eq__" (defArgs s_Listing_eq) (defBody s_Listing_eq) (defScope s_Listing_eq) [] [] (He.ma K (He.ga K "Listing") "__eq__") fd := T.defs 37 _ rfl
theorem Txt.d_Listing_len (T : Txt K mg) : ∃ fd, FunD K "__len__" "Listing.__len__" (defArgs s_Listing_len) (defBody s_Listing_len) (defScope s_Listing_len) [] [] (He.ma K (He.ga K "Listing") "__len__") fd := T.defs 38 _ rfl
theorem Txt.d_Listing_str (T : Txt K mg) : ∃ fd, FunD K "__str__" "Listing.__str__" (defArgs s_Listing_str) (defBody s_Listing_str) (defScope s_Listing_str) [] [] (He.ma K (He.ga K "Listing") "__str__") fd := T.defs 39 _ rfl
theorem Txt.d_Listing_repr (T : Txt K mg) : ∃ fd, FunD K "__repr__" "Listing.__repr__" (defArgs s_Listing_repr) (defBody s_Listing_repr) (defScope s_Listing_repr) [] [] (He.ma K (He.ga K "Listing") "__repr__") fd := T.defs 40 _ rfl
theorem Txt.d_law_hand (T : Txt K mg) : ∃ fd, FunD K "_law_hand" "_law_hand" (defArgs s_law_hand) (defBody s_law_hand) (defScope s_law_hand) [] [] (He.ga K "_law_hand") fd := T.defs 41 _ rfl
theorem Txt.d_law_take (T : Txt K mg) : ∃ fd, FunD K "_law_take" "_law_take" (defArgs s_law_take) (defBody s_law_take) (defScope s_law_take) [] [] (He.ga K "_law_take") fd := T.defs 42 _ rfl
theorem Txt.d_law_pick (T : Txt K mg) : ∃ fd, FunD K "_law_pick" "_law_pick" (defArgs s_law_pick) (defBody s_law_pick) (defScope s_law_pick) [] [] (He.ga K "_law_pick") fd := T.defs 43 _ rfl
theorem Txt.d_law_signs (T : Txt K mg) : ∃ fd, FunD K "_law_signs" "_law_signs" (defArgs s_law_signs) (defBody s_law_signs) (defScope s_law_signs) [] [] (He.ga K "_law_signs") fd := T.defs 44 _ rfl
theorem Txt.d_law_text (T : Txt K mg) : ∃ fd, FunD K "_law_text" "_law_text" (defArgs s_law_text) (defBody s_law_text) (defScope s_law_text) [] [] (He.ga K "_law_text") fd := T.defs 45 _ rfl
theorem Txt.d_law_tongue (T : Txt K mg) : ∃ fd, FunD K "_law_tongue" "_law_tongue" (defArgs s_law_tongue) (defBody s_law_tongue) (defScope s_law_tongue) [] [] (He.ga K "_law_tongue") fd := T.defs 46 _ rfl
theorem Txt.d_law_names (T : Txt K mg) : ∃ fd, FunD K "_law_names" "_law_names" (defArgs s_law_names) (defBody s_law_names) (defScope s_law_names) [] [] (He.ga K "_law_names") fd := T.defs 47 _ rfl
theorem Txt.d_law_days (T : Txt K mg) : ∃ fd, FunD K "_law_days" "_law_days" (defArgs s_law_days) (defBody s_law_days) (defScope s_law_days) [] [] (He.ga K "_law_days") fd := T.defs 48 _ rfl
theorem Txt.d_law_codes (T : Txt K mg) : ∃ fd, FunD K "_law_codes" "_law_codes" (defArgs s_law_codes) (defBody s_law_codes) (defScope s_law_codes) [] [] (He.ga K "_law_codes") fd := T.defs 49 _ rfl
theorem Txt.d_law_pools (T : Txt K mg) : ∃ fd, FunD K "_law_pools" "_law_pools" (defArgs s_law_pools) (defBody s_law_pools) (defScope s_law_pools) [] [] (He.ga K "_law_pools") fd := T.defs 50 _ rfl
theorem Txt.d_law_word (T : Txt K mg) : ∃ fd, FunD K "_law_word" "_law_word" (defArgs s_law_word) (defBody s_law_word) (defScope s_law_word) [] [] (He.ga K "_law_word") fd := T.defs 51 _ rfl
theorem Txt.d_law_keys (T : Txt K mg) : ∃ fd, FunD K "_law_keys" "_law_keys" (defArgs s_law_keys) (defBody s_law_keys) (defScope s_law_keys) [] [] (He.ga K "_law_keys") fd := T.defs 52 _ rfl
theorem Txt.d_law_entry (T : Txt K mg) : ∃ fd, FunD K "_law_entry" "_law_entry" (defArgs s_law_entry) (defBody s_law_entry) (defScope s_law_entry) [] [] (He.ga K "_law_entry") fd := T.defs 53 _ rfl
theorem Txt.d_law_mark (T : Txt K mg) : ∃ fd, FunD K "_law_mark" "_law_mark" (defArgs s_law_mark) (defBody s_law_mark) (defScope s_law_mark) [] [] (He.ga K "_law_mark") fd := T.defs 54 _ rfl
theorem Txt.d_law_due (T : Txt K mg) : ∃ fd, FunD K "_law_due" "_law_due" (defArgs s_law_due) (defBody s_law_due) (defScope s_law_due) [] [] (He.ga K "_law_due") fd := T.defs 55 _ rfl
theorem Txt.d_law_fields (T : Txt K mg) : ∃ fd, FunD K "_law_fields" "_law_fields" (defArgs s_law_fields) (defBody s_law_fields) (defScope s_law_fields) [] [] (He.ga K "_law_fields") fd := T.defs 56 _ rfl
theorem Txt.d_law_told_right (T : Txt K mg) : ∃ fd, FunD K "_law_told_right" "_law_told_right" (defArgs s_law_told_right) (defBody s_law_told_right) (defScope s_law_told_right) [] [] (He.ga K "_law_told_right") fd := T.defs 57 _ rfl
theorem Txt.d_law_marked (T : Txt K mg) : ∃ fd, FunD K "_law_marked" "_law_marked" (defArgs s_law_marked) (defBody s_law_marked) (defScope s_law_marked) [] [] (He.ga K "_law_marked") fd := T.defs 58 _ rfl
theorem Txt.d_law_sums_right (T : Txt K mg) : ∃ fd, FunD K "_law_sums_right" "_law_sums_right" (defArgs s_law_sums_right) (defBody s_law_sums_right) (defScope s_law_sums_right) [] [] (He.ga K "_law_sums_right") fd := T.defs 59 _ rfl
theorem Txt.d_law_lists (T : Txt K mg) : ∃ fd, FunD K "_law_lists" "_law_lists" (defArgs s_law_lists) (defBody s_law_lists) (defScope s_law_lists) [] [] (He.ga K "_law_lists") fd := T.defs 60 _ rfl
theorem Txt.d_law_grouped (T : Txt K mg) : ∃ fd, FunD K "_law_grouped" "_law_grouped" (defArgs s_law_grouped) (defBody s_law_grouped) (defScope s_law_grouped) [] [] (He.ga K "_law_grouped") fd := T.defs 61 _ rfl
theorem Txt.d_law_ways (T : Txt K mg) : ∃ fd, FunD K "_law_ways" "_law_ways" (defArgs s_law_ways) (defBody s_law_ways) (defScope s_law_ways) [] [] (He.ga K "_law_ways") fd := T.defs 62 _ rfl
theorem Txt.d_law_one (T : Txt K mg) : ∃ fd, FunD K "_law_one" "_law_one" (defArgs s_law_one) (defBody s_law_one) (defScope s_law_one) [] [] (He.ga K "_law_one") fd := T.defs 63 _ rfl
theorem Txt.d_law_key (T : Txt K mg) : ∃ fd, FunD K "_law_key" "_law_key" (defArgs s_law_key) (defBody s_law_key) (defScope s_law_key) [] [] (He.ga K "_law_key") fd := T.defs 64 _ rfl
theorem Txt.d_law (T : Txt K mg) : ∃ fd, FunD K "law" "law" (defArgs s_law) (defBody s_law) (defScope s_law) [] [] (He.ga K "law") fd := T.defs 65 _ rfl
theorem Txt.exs (T : Txt K mg) : (He.tupB K "FIELDS" [.str "code", .str "title", .str "players", .str "day", .str "length"]) = true ∧ (He.tupB K "MONTHS" ([31, 28, 31, 30, 31, 30, 31, 31, 30, 31, 30, 31].map fun i => He.Dv.int i)) = true ∧ ((kits K).all (fun t => decide (PySem.W.kitOne K t.1 t.2.1 = some t.2.2))) = true ∧ (ownB K "Day") = true ∧ (ownB K "Length") = true ∧ (ownB K "Listing") = true ∧ (He.eqO (PySem.W.specialIn K (.builtin "object.__class__") "__get__") (some (some (.builtin "getset_descriptor.__get__")))) = true ∧ (decide (PySem.W.takesIn K (.builtin "object.__class__") = some true)) = true := by
  have h := T.ex
  unfold exB at h
  simp only [Bool.and_eq_true] at h
  exact h.2
theorem Txt.fieldsD (T : Txt K mg) : ∃ o, K.lookup (He.ga K "FIELDS") = some o ∧ o.cls = .type "tuple" ∧ o.dict = none := by
  have h := T.ex
  unfold exB at h
  simp only [Bool.and_eq_true] at h
  have h := h.1
  unfold tupDB at h
  split at h
  · rename_i o e
    simp only [Bool.and_eq_true, decide_eq_true_eq] at h
    exact ⟨o, e, h.1, h.2⟩
  · cases h
theorem Txt.fields (T : Txt K mg) (H : Hp) : SqT K H (He.ga K "FIELDS") [.str "code", .str "title", .str "players", .str "day", .str "length"] := He.tupB_ok T.exs.1 H
theorem Txt.months (T : Txt K mg) (H : Hp) : SqT K H (He.ga K "MONTHS") ([31, 28, 31, 30, 31, 30, 31, 31, 30, 31, 30, 31].map V.int) := He.tupB_ok T.exs.2.1 H
theorem Txt.kit (T : Txt K mg) (i : Nat) {t c : Value} {b : Bool} (h : (kits K)[i]? = some (t, c, b)) : PySem.W.kitOne K t c = some b := by
  have z := List.all_eq_true.mp T.exs.2.2.1 _ (List.mem_of_getElem? h)
  exact of_decide_eq_true z
theorem ty_ins {H : Hp} {a dx : Addr} {fs : List (Str × V)} {c : Str} (T : Txt K mg) (h : ownB K c = true) (cl : Cls K (He.ga K c)) (e : H a = some (.ins (He.ga K c) dx fs)) : TyX K H (.ref a) (.ref (He.ga K c)) :=
  .base (.ins e cl (He.eqO_ok (He.ba h).1) (He.eqO_ok T.exs.2.2.2.2.2.2.1) (of_decide_eq_true T.exs.2.2.2.2.2.2.2) (of_decide_eq_true (He.ba h).2))
theorem Txt.ty_Day (T : Txt K mg) {H : Hp} {a dx : Addr} {fs : List (Str × V)} (e : H a = some (.ins (cDay K) dx fs)) : TyX K H (.ref a) (.ref (cDay K)) := ty_ins T T.exs.2.2.2.1 T.c_Day e
theorem Txt.ty_Length (T : Txt K mg) {H : Hp} {a dx : Addr} {fs : List (Str × V)} (e : H a = some (.ins (cLength K) dx fs)) : TyX K H (.ref a) (.ref (cLength K)) := ty_ins T T.exs.2.2.2.2.1 T.c_Length e
theorem Txt.ty_Listing (T : Txt K mg) {H : Hp} {a dx : Addr} {fs : List (Str × V)} (e : H a = some (.ins (cListing K) dx fs)) : TyX K H (.ref a) (.ref (cListing K)) := ty_ins T T.exs.2.2.2.2.2.1 T.c_Listing e
end
/-! ### forms of defs -/
section
variable {P : Program} {w : World} {K : PySem.W.Frag} {mg : Str → Option Value} {base : Heap}
theorem cal_of {x qual : Str} {params : Arguments} {body : List Stmt} {scope : Scope} {f : Addr} {fd : FuncData} {N ps : List Str} {k : Nat} {sp : Sp} (F : FunD K x qual params body scope [] [] f fd) (hm : mg x = some (.ref f))
    (hb : ∀ (kV doc pm : Value) (an : Option Addr) (cdv ct : Value) (us : List Value), us.length = ps.length → bindArgs (PySem.W.fnOf x qual params body scope .none kV doc pm an cdv ct) ⟨us, []⟩ = pure (ps.zip us))
    (S : FnScope N ps scope) (len : ∀ vs H Q E, sp vs H Q E → vs.length = ps.length)
    (hbody : ∀ (cdv : Value) (A : Around) (outer : List Env) (s : Shared) (H : Hp) (vs : List V) (Q : VK) (E : XK), Room k (A.deeper (envOfC qual scope s.heap.objs.size f cdv)) → sp vs H Q E →
      ∃ t, PSs (cxOf C8.CX0 P w K mg base N qual scope f cdv A outer s H E).nox body t ∧ t { nx := fun _ H' => Q .non H', rt := Q } (start N vs) H) : C8.Cal P w K mg base (k + 1) x sp [] :=
  ⟨f, fd, ps, [], F.ok S len (fun cdv A outer s H vs Q E hr h => let ⟨t, a, b⟩ := hbody cdv A outer s H vs Q E hr h; ⟨t, a.nox, b⟩), hm, F.kp, FunD.bindsN F hb, .nil⟩
theorem met_of {C : Addr} {m qual : Str} {params : Arguments} {body : List Stmt} {scope : Scope} {f : Addr} {fd : FuncData} {N ps : List Str} {k : Nat} {sp : Sp} (c : Cls K C) (me : Meth K C m f) (F : FunD K m qual params body scope [] [] f fd)
    (hb : ∀ (kV doc pm : Value) (an : Option Addr) (cdv ct : Value) (us : List Value), us.length = ps.length → bindArgs (PySem.W.fnOf m qual params body scope .none kV doc pm an cdv ct) ⟨us, []⟩ = pure (ps.zip us))
    (S : FnScope N ps scope) (len : ∀ vs H Q E, sp vs H Q E → vs.length = ps.length)
    (hbody : ∀ (cdv : Value) (A : Around) (outer : List Env) (s : Shared) (H : Hp) (vs : List V) (Q : VK) (E : XK), Room k (A.deeper (envOfC qual scope s.heap.objs.size f cdv)) → sp vs H Q E →
      ∃ t, PSs (cxOf C8.CX0 P w K mg base N qual scope f cdv A outer s H E).nox body t ∧ t { nx := fun _ H' => Q .non H', rt := Q } (start N vs) H) : C8.Met P w K mg base (k + 1) C m sp [] :=
  ⟨f, fd, ps, [], c, me, F.ok S len (fun cdv A outer s H vs Q E hr h => let ⟨t, a, b⟩ := hbody cdv A outer s H vs Q E hr h; ⟨t, a.nox, b⟩), FunD.bindsN F hb, .nil⟩
end
section
variable {X : Cx} {k j : Nat} {x : Str} {sp : Sp} {dvs : List V} {p pos : Pos}
theorem pe_c0 (c : C8.Cal X.prog X.w X.K X.mg X.base k x sp dvs) (hr : Room j X.A) (hk : k ≤ j) (hg : Gl X x) (hdb : (x == ("__debug__" : Str)) = false := by decide) : PE X (.Call (.Name x p) [] [] pos) (tCall sp dvs C8.E0 tNil) := by
  obtain ⟨f, fd, ps, ds, F, hm, kp, b, d⟩ := c.ex
  exact pe_call0 F (hr.mono hk) hg hm kp b d C8.pass0 hdb
end
abbrev N_is_whole : List Str := ["thing"]
theorem sc_is_whole : FnScope N_is_whole ["thing"] (defScope s_is_whole) := ⟨rfl, rfl, rfl, by decide +kernel, rfl, by decide +kernel, by decide +kernel⟩
abbrev N_is_from : List Str := ["thing", "least"]
theorem sc_is_from : FnScope N_is_from ["thing", "least"] (defScope s_is_from) := ⟨rfl, rfl, rfl, by decide +kernel, rfl, by decide +kernel, by decide +kernel⟩
abbrev N_is_word : List Str := ["thing", "sign"]
theorem sc_is_word : FnScope N_is_word ["thing"] (defScope s_is_word) := ⟨rfl, rfl, rfl, by decide +kernel, rfl, by decide +kernel, by decide +kernel⟩
abbrev N_is_between : List Str := ["thing", "least", "most"]
theorem sc_is_between : FnScope N_is_between ["thing", "least", "most"] (defScope s_is_between) := ⟨rfl, rfl, rfl, by decide +kernel, rfl, by decide +kernel, by decide +kernel⟩
abbrev N_is_long_year : List Str := ["year"]
theorem sc_is_long_year : FnScope N_is_long_year ["year"] (defScope s_is_long_year) := ⟨rfl, rfl, rfl, by decide +kernel, rfl, by decide +kernel, by decide +kernel⟩
abbrev N_days_in : List Str := ["year", "month"]
theorem sc_days_in : FnScope N_days_in ["year", "month"] (defScope s_days_in) := ⟨rfl, rfl, rfl, by decide +kernel, rfl, by decide +kernel, by decide +kernel⟩
abbrev N_are_parts : List Str := ["year", "month", "day"]
theorem sc_are_parts : FnScope N_are_parts ["year", "month", "day"] (defScope s_are_parts) := ⟨rfl, rfl, rfl, by decide +kernel, rfl, by decide +kernel, by decide +kernel⟩
abbrev N_Day_init : List Str := ["self", "year", "month", "day"]
theorem sc_Day_init : FnScope N_Day_init ["self", "year", "month", "day"] (defScope s_Day_init) := ⟨rfl, rfl, rfl, by decide +kernel, rfl, by decide +kernel, by decide +kernel⟩
abbrev N_Day_eq : List Str := ["self", "other"]
theorem sc_Day_eq : FnScope N_Day_eq ["self", "other"] (defScope s_Day_eq) := ⟨rfl, rfl, rfl, by decide +kernel, rfl, by decide +kernel, by decide +kernel⟩
abbrev N_Day_str : List Str := ["self", "parts", "part"]
theorem sc_Day_str : FnScope N_Day_str ["self"] (defScope s_Day_str) := ⟨rfl, rfl, rfl, by decide +kernel, rfl, by decide +kernel, by decide +kernel⟩
abbrev N_Day_repr : List Str := ["self", "parts", "part"]
theorem sc_Day_repr : FnScope N_Day_repr ["self"] (defScope s_Day_repr) := ⟨rfl, rfl, rfl, by decide +kernel, rfl, by decide +kernel, by decide +kernel⟩
abbrev N_parts_of : List Str := ["day"]
theorem sc_parts_of : FnScope N_parts_of ["day"] (defScope s_parts_of) := ⟨rfl, rfl, rfl, by decide +kernel, rfl, by decide +kernel, by decide +kernel⟩
abbrev N_Length_init : List Str := ["self", "seconds"]
theorem sc_Length_init : FnScope N_Length_init ["self", "seconds"] (defScope s_Length_init) := ⟨rfl, rfl, rfl, by decide +kernel, rfl, by decide +kernel, by decide +kernel⟩
abbrev N_Length_eq : List Str := ["self", "other"]
theorem sc_Length_eq : FnScope N_Length_eq ["self", "other"] (defScope s_Length_eq) := ⟨rfl, rfl, rfl, by decide +kernel, rfl, by decide +kernel, by decide +kernel⟩
abbrev N_Length_str : List Str := ["self", "seconds", "minutes", "rest"]
theorem sc_Length_str : FnScope N_Length_str ["self"] (defScope s_Length_str) := ⟨rfl, rfl, rfl, by decide +kernel, rfl, by decide +kernel, by decide +kernel⟩
abbrev N_Length_repr : List Str := ["self"]
theorem sc_Length_repr : FnScope N_Length_repr ["self"] (defScope s_Length_repr) := ⟨rfl, rfl, rfl, by decide +kernel, rfl, by decide +kernel, by decide +kernel⟩
abbrev N_is_called : List Str := ["thing", "sign"]
theorem sc_is_called : FnScope N_is_called ["thing"] (defScope s_is_called) := ⟨rfl, rfl, rfl, by decide +kernel, rfl, by decide +kernel, by decide +kernel⟩
abbrev N_is_name : List Str := ["thing", "tongue", "text"]
theorem sc_is_name : FnScope N_is_name ["thing"] (defScope s_is_name) := ⟨rfl, rfl, rfl, by decide +kernel, rfl, by decide +kernel, by decide +kernel⟩
abbrev N_is_code : List Str := ["thing", "sign"]
theorem sc_is_code : FnScope N_is_code ["thing"] (defScope s_is_code) := ⟨rfl, rfl, rfl, by decide +kernel, rfl, by decide +kernel, by decide +kernel⟩
abbrev N_are_players : List Str := ["thing", "name", "one", "other"]
theorem sc_are_players : FnScope N_are_players ["thing"] (defScope s_are_players) := ⟨rfl, rfl, rfl, by decide +kernel, rfl, by decide +kernel, by decide +kernel⟩
abbrev N_is_key : List Str := ["thing"]
theorem sc_is_key : FnScope N_is_key ["thing"] (defScope s_is_key) := ⟨rfl, rfl, rfl, by decide +kernel, rfl, by decide +kernel, by decide +kernel⟩
abbrev N_is_entry : List Str := ["thing", "code", "title", "players", "day", "length"]
theorem sc_is_entry : FnScope N_is_entry ["thing"] (defScope s_is_entry) := ⟨rfl, rfl, rfl, by decide +kernel, rfl, by decide +kernel, by decide +kernel⟩
abbrev N_field_of : List Str := ["entry", "field"]
theorem sc_field_of : FnScope N_field_of ["entry", "field"] (defScope s_field_of) := ⟨rfl, rfl, rfl, by decide +kernel, rfl, by decide +kernel, by decide +kernel⟩
abbrev N_key_of : List Str := ["entry"]
theorem sc_key_of : FnScope N_key_of ["entry"] (defScope s_key_of) := ⟨rfl, rfl, rfl, by decide +kernel, rfl, by decide +kernel, by decide +kernel⟩
abbrev N_show_name : List Str := ["name", "tongue", "text"]
theorem sc_show_name : FnScope N_show_name ["name"] (defScope s_show_name) := ⟨rfl, rfl, rfl, by decide +kernel, rfl, by decide +kernel, by decide +kernel⟩
abbrev N_show_key : List Str := ["key", "house", "number"]
theorem sc_show_key : FnScope N_show_key ["key"] (defScope s_show_key) := ⟨rfl, rfl, rfl, by decide +kernel, rfl, by decide +kernel, by decide +kernel⟩
abbrev N_show_entry : List Str := ["entry", "parts", "house", "number", "code", "title", "players", "day", "length", "player"]
theorem sc_show_entry : FnScope N_show_entry ["entry"] (defScope s_show_entry) := ⟨rfl, rfl, rfl, by decide +kernel, rfl, by decide +kernel, by decide +kernel⟩
abbrev N_rank_of : List Str := ["field", "thing"]
theorem sc_rank_of : FnScope N_rank_of ["field", "thing"] (defScope s_rank_of) := ⟨rfl, rfl, rfl, by decide +kernel, rfl, by decide +kernel, by decide +kernel⟩
abbrev N_told_alone : List Str := ["key", "field", "thing", "each"]
theorem sc_told_alone : FnScope N_told_alone ["key", "field", "thing"] (defScope s_told_alone) := ⟨rfl, rfl, rfl, by decide +kernel, rfl, by decide +kernel, by decide +kernel⟩
abbrev N_Listing_init : List Str := ["self", "entries", "entry"]
theorem sc_Listing_init : FnScope N_Listing_init ["self", "entries"] (defScope s_Listing_init) := ⟨rfl, rfl, rfl, by decide +kernel, rfl, by decide +kernel, by decide +kernel⟩
abbrev N_Listing_put : List Str := ["self", "entry", "kept", "field", "thing"]
theorem sc_Listing_put : FnScope N_Listing_put ["self", "entry"] (defScope s_Listing_put) := ⟨rfl, rfl, rfl, by decide +kernel, rfl, by decide +kernel, by decide +kernel⟩
abbrev N_Listing_told : List Str := ["self", "house", "number", "field", "kept"]
theorem sc_Listing_told : FnScope N_Listing_told ["self", "house", "number", "field"] (defScope s_Listing_told) := ⟨rfl, rfl, rfl, by decide +kernel, rfl, by decide +kernel, by decide +kernel⟩
abbrev N_Listing_pieces : List Str := ["self", "found", "key", "field", "thing"]
theorem sc_Listing_pieces : FnScope N_Listing_pieces ["self"] (defScope s_Listing_pieces) := ⟨rfl, rfl, rfl, by decide +kernel, rfl, by decide +kernel, by decide +kernel⟩
abbrev N_Listing_joined : List Str := ["self", "other"]
theorem sc_Listing_joined : FnScope N_Listing_joined ["self", "other"] (defScope s_Listing_joined) := ⟨rfl, rfl, rfl, by decide +kernel, rfl, by decide +kernel, by decide +kernel⟩
abbrev N_Listing_sure : List Str := ["self", "key", "field", "some"]
theorem sc_Listing_sure : FnScope N_Listing_sure ["self", "key", "field"] (defScope s_Listing_sure) := ⟨rfl, rfl, rfl, by decide +kernel, rfl, by decide +kernel, by decide +kernel⟩
abbrev N_Listing_entries : List Str := ["self", "key", "field"]
theorem sc_Listing_entries : FnScope N_Listing_entries ["self"] (defScope s_Listing_entries) := ⟨rfl, rfl, rfl, by decide +kernel, rfl, by decide +kernel, by decide +kernel⟩
abbrev N_Listing_clashes : List Str := ["self", "found", "key", "kept", "field"]
theorem sc_Listing_clashes : FnScope N_Listing_clashes ["self"] (defScope s_Listing_clashes) := ⟨rfl, rfl, rfl, by decide +kernel, rfl, by decide +kernel, by decide +kernel⟩
abbrev N_Listing_eq : List Str := ["self", "other", "house", "number", "field"]
theorem sc_Listing_eq : FnScope N_Listing_eq ["self", "other"] (defScope s_Listing_eq) := ⟨rfl, rfl, rfl, by decide +kernel, rfl, by decide +kernel, by decide +kernel⟩
abbrev N_Listing_len : List Str := ["self"]
theorem sc_Listing_len : FnScope N_Listing_len ["self"] (defScope s_Listing_len) := ⟨rfl, rfl, rfl, by decide +kernel, rfl, by decide +kernel, by decide +kernel⟩
abbrev N_Listing_str : List Str := ["self", "entry"]
theorem sc_Listing_str : FnScope N_Listing_str ["self"] (defScope s_Listing_str) := ⟨rfl, rfl, rfl, by decide +kernel, rfl, by decide +kernel, by decide +kernel⟩
abbrev N_Listing_repr : List Str := ["self"]
theorem sc_Listing_repr : FnScope N_Listing_repr ["self"] (defScope s_Listing_repr) := ⟨rfl, rfl, rfl, by decide +kernel, rfl, by decide +kernel, by decide +kernel⟩
abbrev N_law_hand : List Str := ["_law_script", "_law_k", "_law_cell", "_law_great"]
theorem sc_law_hand : FnScope N_law_hand ["_law_script", "_law_k"] (defScope s_law_hand) := ⟨rfl, rfl, rfl, by decide +kernel, rfl, by decide +kernel, by decide +kernel⟩
abbrev N_law_take : List Str := ["_law_hand_here", "_law_many", "_law_turn", "_law_one_here", "_law_two", "_law_mixed", "_law_last", "_law_digit"]
theorem sc_law_take : FnScope N_law_take ["_law_hand_here", "_law_many"] (defScope s_law_take) := ⟨rfl, rfl, rfl, by decide +kernel, rfl, by decide +kernel, by decide +kernel⟩
abbrev N_law_pick : List Str := ["_law_hand_here", "_law_some"]
theorem sc_law_pick : FnScope N_law_pick ["_law_hand_here", "_law_some"] (defScope s_law_pick) := ⟨rfl, rfl, rfl, by decide +kernel, rfl, by decide +kernel, by decide +kernel⟩
abbrev N_law_signs : List Str := []
theorem sc_law_signs : FnScope N_law_signs [] (defScope s_law_signs) := ⟨rfl, rfl, rfl, by decide +kernel, rfl, by decide +kernel, by decide +kernel⟩
abbrev N_law_text : List Str := ["_law_hand_here", "_law_most", "_law_k", "_law_text_here", "_law_size", "_law_sign"]
theorem sc_law_text : FnScope N_law_text ["_law_hand_here", "_law_most"] (defScope s_law_text) := ⟨rfl, rfl, rfl, by decide +kernel, rfl, by decide +kernel, by decide +kernel⟩
abbrev N_law_tongue : List Str := ["_law_hand_here", "_law_letters", "_law_k"]
theorem sc_law_tongue : FnScope N_law_tongue ["_law_hand_here"] (defScope s_law_tongue) := ⟨rfl, rfl, rfl, by decide +kernel, rfl, by decide +kernel, by decide +kernel⟩
abbrev N_law_names : List Str := ["_law_hand_here", "_law_many", "_law_stem", "_law_tongues", "_law_k", "_law_at", "_law_signs_here", "_law_found", "_law_sign"]
theorem sc_law_names : FnScope N_law_names ["_law_hand_here", "_law_many"] (defScope s_law_names) := ⟨rfl, rfl, rfl, by decide +kernel, rfl, by decide +kernel, by decide +kernel⟩
abbrev N_law_days : List Str := ["_law_hand_here", "_law_day", "_law_other", "_law_year", "_law_month"]
theorem sc_law_days : FnScope N_law_days ["_law_hand_here"] (defScope s_law_days) := ⟨rfl, rfl, rfl, by decide +kernel, rfl, by decide +kernel, by decide +kernel⟩
abbrev N_law_codes : List Str := ["_law_hand_here", "_law_signs_here", "_law_code", "_law_k"]
theorem sc_law_codes : FnScope N_law_codes ["_law_hand_here"] (defScope s_law_codes) := ⟨rfl, rfl, rfl, by decide +kernel, rfl, by decide +kernel, by decide +kernel⟩
abbrev N_law_pools : List Str := ["_law_hand_here", "_law_far", "_law_players", "_law_lengths", "_law_names_here", "_law_start", "_law_some"]
theorem sc_law_pools : FnScope N_law_pools ["_law_hand_here"] (defScope s_law_pools) := ⟨rfl, rfl, rfl, by decide +kernel, rfl, by decide +kernel, by decide +kernel⟩
abbrev N_law_word : List Str := ["_law_hand_here", "_law_letters", "_law_k"]
theorem sc_law_word : FnScope N_law_word ["_law_hand_here"] (defScope s_law_word) := ⟨rfl, rfl, rfl, by decide +kernel, rfl, by decide +kernel, by decide +kernel⟩
abbrev N_law_keys : List Str := ["_law_hand_here", "_law_houses", "_law_number", "_law_k"]
theorem sc_law_keys : FnScope N_law_keys ["_law_hand_here"] (defScope s_law_keys) := ⟨rfl, rfl, rfl, by decide +kernel, rfl, by decide +kernel, by decide +kernel⟩
abbrev N_law_entry : List Str := ["_law_hand_here", "_law_keys_here", "_law_pools_here", "_law_pool", "_law_key_here", "_law_found", "_law_thing"]
theorem sc_law_entry : FnScope N_law_entry ["_law_hand_here", "_law_keys_here", "_law_pools_here"] (defScope s_law_entry) := ⟨rfl, rfl, rfl, by decide +kernel, rfl, by decide +kernel, by decide +kernel⟩
abbrev N_law_mark : List Str := ["_law_thing"]
theorem sc_law_mark : FnScope N_law_mark ["_law_thing"] (defScope s_law_mark) := ⟨rfl, rfl, rfl, by decide +kernel, rfl, by decide +kernel, by decide +kernel⟩
abbrev N_law_due : List Str := ["_law_given", "_law_due_here", "_law_entry_here", "_law_kept", "_law_some", "_law_thing"]
theorem sc_law_due : FnScope N_law_due ["_law_given"] (defScope s_law_due) := ⟨rfl, rfl, rfl, by decide +kernel, rfl, by decide +kernel, by decide +kernel⟩
abbrev N_law_fields : List Str := []
theorem sc_law_fields : FnScope N_law_fields [] (defScope s_law_fields) := ⟨rfl, rfl, rfl, by decide +kernel, rfl, by decide +kernel, by decide +kernel⟩
abbrev N_law_told_right : List Str := ["_law_listing", "_law_due_here", "_law_key_here", "_law_kept", "_law_field", "_law_some", "_law_found", "_law_thing"]
theorem sc_law_told_right : FnScope N_law_told_right ["_law_listing", "_law_due_here"] (defScope s_law_told_right) := ⟨rfl, rfl, rfl, by decide +kernel, rfl, by decide +kernel, by decide +kernel⟩
abbrev N_law_marked : List Str := ["_law_entry_here", "_law_thing"]
theorem sc_law_marked : FnScope N_law_marked ["_law_entry_here"] (defScope s_law_marked) := ⟨rfl, rfl, rfl, by decide +kernel, rfl, by decide +kernel, by decide +kernel⟩
abbrev N_law_sums_right : List Str := ["_law_listing", "_law_due_here", "_law_key_here", "_law_found", "_law_entry_here", "_law_rows", "_law_clashes", "_law_some", "_law_kept", "_law_field", "_law_one_here"]
theorem sc_law_sums_right : FnScope N_law_sums_right ["_law_listing", "_law_due_here"] (defScope s_law_sums_right) := ⟨rfl, rfl, rfl, by decide +kernel, rfl, by decide +kernel, by decide +kernel⟩
abbrev N_law_lists : List Str := ["_law_script", "_law_first", "_law_keys_here", "_law_k", "_law_pools_here", "_law_found", "_law_hand_here", "_law_turn"]
theorem sc_law_lists : FnScope N_law_lists ["_law_script"] (defScope s_law_lists) := ⟨rfl, rfl, rfl, by decide +kernel, rfl, by decide +kernel, by decide +kernel⟩
abbrev N_law_grouped : List Str := ["_law_hand_here", "_law_listings", "_law_rest", "_law_one_here", "_law_other"]
theorem sc_law_grouped : FnScope N_law_grouped ["_law_hand_here", "_law_listings"] (defScope s_law_grouped) := ⟨rfl, rfl, rfl, by decide +kernel, rfl, by decide +kernel, by decide +kernel⟩
abbrev N_law_ways : List Str := ["_law_hand_here", "_law_lists_here", "_law_some", "_law_one_by_one", "_law_entry_here", "_law_found", "_law_twice", "_law_listings", "_law_every"]
theorem sc_law_ways : FnScope N_law_ways ["_law_hand_here", "_law_lists_here"] (defScope s_law_ways) := ⟨rfl, rfl, rfl, by decide +kernel, rfl, by decide +kernel, by decide +kernel⟩
abbrev N_law_one : List Str := ["_law_found", "_law_due_here", "_law_first", "_law_other"]
theorem sc_law_one : FnScope N_law_one ["_law_found", "_law_due_here"] (defScope s_law_one) := ⟨rfl, rfl, rfl, by decide +kernel, rfl, by decide +kernel, by decide +kernel⟩
abbrev N_law_key : List Str := ["_law_due_here", "_law_key_here", "_law_kept", "_law_some"]
theorem sc_law_key : FnScope N_law_key ["_law_due_here"] (defScope s_law_key) := ⟨rfl, rfl, rfl, by decide +kernel, rfl, by decide +kernel, by decide +kernel⟩
abbrev N_law : List Str := ["_law_script", "_law_every", "_law_some", "_law_due_here", "_law_at", "_law_hand_here", "_law_lists_here", "_law_listings", "_law_found", "_law_one_here", "_law_less"]
theorem sc_law : FnScope N_law ["_law_script"] (defScope s_law) := ⟨rfl, rfl, rfl, by decide +kernel, rfl, by decide +kernel, by decide +kernel⟩
end TW
set_option Elab.async false
set_option linter.all false
set_option maxRecDepth 100000
set_option maxHeartbeats 4000000
namespace TW
open PySem PySem.Spec PyProof.Rows L2
/-! ### what the values stand for -/
inductive Th where
  | code (s : Str)
  | name (t x : Str)
  | players (l : List (Str × Str))
  | day (y : Int) (m d : Option Int)
  | len (n : Int)
  deriving DecidableEq
def oi : Option Int → V
  | none => .non
  | some i => .int i
def nmark (p : Str × Str) : PyData := .tuple [.str p.1, .str p.2]
def Th.mark : Th → PyData
  | .code s => .str s
  | .name t x => nmark (t, x)
  | .players l => .tuple (l.map nmark)
  | .day y m d => .tuple [.int y, .int (m.getD 0), .int (d.getD 0)]
  | .len n => .int n
/-- a pair (t, x) stands at v -/
def NameAt (H : Hp) (v : V) (p : Str × Str) : Prop := ∃ a, v = .ref a ∧ H a = some (.tup [.str p.1, .str p.2])
def ThAt (K : PySem.W.Frag) (H : Hp) (v : V) : Th → Prop
  | .code s => v = .str s
  | .name t x => NameAt H v (t, x)
  | .players l => ∃ a vs, v = .ref a ∧ H a = some (.tup vs) ∧ Paired (NameAt H) vs l
  | .day y m d => ∃ a dx, v = .ref a ∧ H a = some (.ins (cDay K) dx [("year", .int y), ("month", oi m), ("day", oi d)])
  | .len n => ∃ a dx, v = .ref a ∧ H a = some (.ins (cLength K) dx [("seconds", .int n)])
theorem NameAt.imm {H H' : Hp} {v : V} {p : Str × Str} (e : Imm H H') (h : NameAt H v p) : NameAt H' v p := let ⟨a, h1, h2⟩ := h; ⟨a, h1, e _ _ h2 rfl⟩
theorem prd_mono {α β : Type} {R R' : α → β → Prop} (h : ∀ a b, R a b → R' a b) : ∀ {xs : List α} {ys : List β}, Paired R xs ys → Paired R' xs ys
  | _, _, .nil => .nil
  | _, _, .cons a b => .cons (h _ _ a) (prd_mono h b)
theorem ThAt.imm {K : PySem.W.Frag} {H H' : Hp} {v : V} {th : Th} (e : Imm H H') (h : ThAt K H v th) : ThAt K H' v th := by
  cases th with
  | code s => exact h
  | name t x => exact NameAt.imm e h
  | players l => exact let ⟨a, vs, h1, h2, h3⟩ := h; ⟨a, vs, h1, e _ _ h2 rfl, prd_mono (fun _ _ q => q.imm e) h3⟩
  | day y m d => exact let ⟨a, dx, h1, h2⟩ := h; ⟨a, dx, h1, e _ _ h2 rfl⟩
  | len n => exact let ⟨a, dx, h1, h2⟩ := h; ⟨a, dx, h1, e _ _ h2 rfl⟩
/-- a thing or None -/
def OThAt (K : PySem.W.Frag) (H : Hp) (v : V) : Option Th → Prop
  | none => v = .non
  | some th => ThAt K H v th
theorem OThAt.imm {K : PySem.W.Frag} {H H' : Hp} {v : V} {o : Option Th} (e : Imm H H') (h : OThAt K H v o) : OThAt K H' v o := by
  cases o with
  | none => exact h
  | some th => exact ThAt.imm e h
/-- a key of a listing: house, number -/
abbrev LKey := Str × Int
def kvals (k : LKey) : List V := [.str k.1, .int k.2]
def kkey (k : LKey) : List Key := [.inr k.1, .inl k.2]
theorem kkey_kV (k : LKey) : (kkey k).map kV = kvals k := rfl
structure Ent where
  key : LKey
  th : List (Option Th)
def KeyAt (H : Hp) (v : V) (k : LKey) : Prop := ∃ a, v = .ref a ∧ H a = some (.tup (kvals k))
def EntAt (K : PySem.W.Frag) (H : Hp) (v : V) (e : Ent) : Prop := ∃ a vs, v = .ref a ∧ H a = some (.tup (kvals e.key ++ vs)) ∧ Paired (OThAt K H) vs e.th
theorem EntAt.imm {K : PySem.W.Frag} {H H' : Hp} {v : V} {e : Ent} (i : Imm H H') (h : EntAt K H v e) : EntAt K H' v e :=
  let ⟨a, vs, h1, h2, h3⟩ := h; ⟨a, vs, h1, i _ _ h2 rfl, prd_mono (fun _ _ q => q.imm i) h3⟩
theorem KeyAt.imm {H H' : Hp} {v : V} {k : LKey} (i : Imm H H') (h : KeyAt H v k) : KeyAt H' v k := let ⟨a, h1, h2⟩ := h; ⟨a, h1, i _ _ h2 rfl⟩

/-! ### which of them the program takes -/
def inAl (al x : Str) : Prop := ∀ c ∈ x.cps.toList, c ∈ al.cps.toList
structure WordOk (x : Str) : Prop where
  lo : 1 ≤ x.length
  hi : x.length ≤ 8
  al : inAl sLET x
structure CodeOk (x : Str) : Prop where
  lo : 1 ≤ x.length
  hi : x.length ≤ 12
  al : inAl sCOD x
structure CalledOk (x : Str) : Prop where
  lo : 1 ≤ x.length
  hi : x.length ≤ 40
  al : inAl sSIG x
  first : ∀ c, x.cps[0]? = some c → c ≠ 32
  last : ∀ c, x.cps[x.cps.size - 1]? = some c → c ≠ 32
  dbl : (Builtin.Str.occurrences x ⟨#[32, 32]⟩ 0 x.length 1).isEmpty = true
structure NameOk (p : Str × Str) : Prop where
  lo : 2 ≤ p.1.length
  hi : p.1.length ≤ 3
  al : inAl sLET p.1
  called : CalledOk p.2
structure PlayersOk (l : List (Str × Str)) : Prop where
  lo : 1 ≤ l.length
  hi : l.length ≤ 8
  each : ∀ p ∈ l, NameOk p
  rise : ∀ (i : Nat) (a b : Str × Str), l[i]? = some a → l[i + 1]? = some b → PySem.W.dataLt (nmark a) (nmark b) = true
/-- a day that can be: its month's days are never fewer than 28 -/
structure DayOk (y : Int) (m d : Option Int) : Prop where
  ylo : 1 ≤ y
  yhi : y ≤ 9999
  mon : m = none → d = none
  mr : ∀ i, m = some i → 1 ≤ i ∧ i ≤ 12
  dr : ∀ i, d = some i → 1 ≤ i ∧ i ≤ 28
def Th.ok : Nat → Th → Prop
  | 0, .code s => CodeOk s
  | 1, .name t x => NameOk (t, x)
  | 2, .players l => PlayersOk l
  | 3, .day y m d => DayOk y m d
  | 4, .len n => 0 ≤ n ∧ n ≤ 359999
  | _, _ => False
structure KeyOk (k : LKey) : Prop where
  house : WordOk k.1
  lo : 0 ≤ k.2
  hi : k.2 < 10 ^ 31
structure EntOk (e : Ent) : Prop where
  key : KeyOk e.key
  five : e.th.length = 5
  each : ∀ (i : Nat) (th : Th), e.th[i]? = some (some th) → th.ok i
/-! ### small readings -/
section
variable {K : PySem.W.Frag} {H : Hp} {Q : VK} {x c : V} {t u : Value} {b : Bool}
theorem isi_of (ty : TyX K H x t) (cl : ClsV c u) (k : PySem.W.kitOne K t u = some b) (q : Q (.bl b) H) : rIsi K [x, c] H Q := ⟨x, c, t, u, b, rfl, cl, ty, k, q⟩
end
theorem q_dec {Q : VK} {H : Hp} {p : Prop} [Decidable p] (h : p) (q : Q (.bl true) H) : Q (.bl (decide p)) H := by rw [decide_eq_true h]; exact q
theorem q_decF {Q : VK} {H : Hp} {p : Prop} [Decidable p] (h : ¬ p) (q : Q (.bl false) H) : Q (.bl (decide p)) H := by rw [decide_eq_false h]; exact q
theorem if_decT {p A B : Prop} [Decidable p] (h : p) (q : A) : if decide p = true then A else B := by rw [decide_eq_true h]; exact iteT q
theorem if_decF {p A B : Prop} [Decidable p] (h : ¬ p) (q : B) : if decide p = true then A else B := by rw [decide_eq_false h]; exact iteF q
theorem if_ndecT {p A B : Prop} [Decidable p] (h : ¬ p) (q : A) : if (!decide p) = true then A else B := by rw [decide_eq_false h]; exact iteT q
theorem if_ndecF {p A B : Prop} [Decidable p] (h : p) (q : B) : if (!decide p) = true then A else B := by rw [decide_eq_true h]; exact iteF q
/-- all([c in al for c in x]) -/
theorem all_in {K : PySem.W.Frag} {σ : L2.St} {H : Hp} {x al : Str} {i j : Nat} {Q : VK} (hx : σ[i]? = some (some (.str x))) (hj : j < σ.length) (ok : inAl al x) (hz : x.cps.size ≤ 100000) (hq : ∀ H', Ext H H' → Q (.bl true) H') :
    tCB (rAll K) (tCons (tLc (iStr (tVar i)) (gName j) tYes (tOp (fun x y H Q => ∃ (c : Nat) (z : Str), x = .str ⟨#[c]⟩ ∧ y = .str z ∧ Q (.bl (decide (c ∈ z.cps.toList))) H) (tVar j) (tC (.str al))) [j]) tNil) σ H Q := by
  refine ⟨_, hx, x, rfl, fun D hD => ?_⟩
  refine lc_map src_str (fun _ => False) (fun _ z _ => z = .bl true) (fun _ _ => True) hD (fun z => z) (Nat.le_trans hz (by decide)) (fun _ _ _ _ _ h => h) (fun _ _ _ h => h) True.intro (fun _ _ _ _ _ => True.intro) (fun _ _ _ _ k => Imm.of (Kp.ext k)) (fun k v H1 H2 hk kp _ hy Q' q => ?_) fun H1 zs kp hD1 hl hr _ => ?_
  · obtain ⟨rfl, c, hc, rfl⟩ := hy
    refine ⟨?_, .str ⟨#[c]⟩, ?_, c, al, rfl, rfl, ?_⟩
    · show ((σ.set j none).set j (some (V.str ⟨#[c]⟩))).set j none = σ.set j none
      rw [List.set_set, List.set_set]
    · rw [List.getElem?_set_self (by rw [wipe_length]; exact hj)]
    · have hm : c ∈ x.cps.toList := by
        obtain ⟨h1, h2⟩ := Array.getElem?_eq_some_iff.mp hc
        rw [← h2]
        exact Array.getElem_mem_toList h1
      rw [decide_eq_true (ok c hm)]
      exact q _ _ Kp.rfl' rfl True.intro
  · have e : zs = (zs.map fun _ => true).map V.bl := by
      rw [List.map_map]
      apply List.ext_getElem?
      intro m
      rw [List.getElem?_map]
      cases hm : zs[m]? with
      | none => rfl
      | some z => rw [hr m z hm]; rfl
    refine ⟨D, zs.map fun _ => true, rfl, by rw [← e]; exact Evl.sq_of hD1, ?_⟩
    have e2 : (zs.map fun _ => true).all id = true := by simp
    rw [e2]
    exact hq H1 (Kp.ext kp)
/-- all([..]) where each turn gives True -/
theorem all_src {K : PySem.W.Frag} {J : It} {n : Nat} {ok : Hp → Prop} {y : Nat → Hp → V → Hp → Prop} (src : Src J n ok y) {g : TG} {te : TE} {vs : List Nat} {σ : L2.St} {H : Hp} {D : Addr} {Qd : Hp → Prop} (hD : H D = none) (hn : n ≤ sizeLine) (hok : ∀ H', Ext H H' → ok H')
    (hs : ∀ i x H1 H2, i < n → Ext H H1 → y i H1 x H2 → ∀ Q : VK, (∀ H4, Ext H1 H4 → Q (.bl true) H4) → g x (wipe σ vs) H2 fun σ2 H3 => wipe σ2 vs = wipe σ vs ∧ te σ2 H3 Q) (hq : ∀ (H' : Hp) (bs : List Bool), Ext H H' → SqL K H' D (bs.map V.bl) → bs.all id = true → Qd H') :
    ∃ W : Nat → Nat → Hp → Prop, (∃ m, W 0 m (upd H D (.lst []))) ∧ ∀ i m H, W i m H →
      (J.stop i H ∧ Qd H) ∨ (J.go i H ∧ ∃ Nx : Hp → Prop, (∀ H', Nx H' → ∃ m', m' < m ∧ W (i + 1) m' H') ∧ ∀ x H', J.yld i H x H' → g x (wipe σ vs) H' fun σ2 H2 => wipe σ2 vs = wipe σ vs ∧ tYes σ2 H2 fun b H3 =>
        if b = true then te σ2 H3 fun y H4 => ∃ acc, H4 D = some (.lst acc) ∧ acc.length < sizeLine ∧ Nx (upd H4 D (.lst (acc ++ [y]))) else Nx H3) := by
  refine lc_map src (fun _ => False) (fun _ z _ => z = .bl true) (fun _ _ => True) hD (fun z => z) hn (fun _ _ _ _ _ h => h) (fun _ _ _ h => h) True.intro (fun _ H1 _ k _ => hok H1 (Kp.ext k)) (fun _ _ _ _ k => Imm.of (Kp.ext k)) (fun k v H1 H2 hk kp _ hy Q' q => ?_) fun H1 zs kp hD1 hl hr _ => ?_
  · exact hs k v H1 H2 hk (Kp.ext kp) hy Q' fun H4 e => q _ _ (Kp.of e) rfl True.intro
  · have e : zs = (zs.map fun _ => true).map V.bl := by
      rw [List.map_map]
      apply List.ext_getElem?
      intro m
      rw [List.getElem?_map]
      cases hm : zs[m]? with
      | none => rfl
      | some z => rw [hr m z hm]; rfl
    exact hq H1 (zs.map fun _ => true) (Kp.ext kp) (by rw [← e]; exact Evl.sq_of hD1) (by simp)
theorem prd_len {α β : Type} {R : α → β → Prop} {xs : List α} {ys : List β} (h : Paired R xs ys) : xs.length = ys.length := Paired.length h
theorem sp1 : Str.ofString " " = ⟨#[32]⟩ := by decide +kernel
theorem sp2 : Str.ofString "  " = ⟨#[32, 32]⟩ := by decide +kernel
theorem one_ne {c d : Nat} (h : c ≠ d) : V.str ⟨#[c]⟩ ≠ V.str ⟨#[d]⟩ := fun e => h (by injection e with e; injection e with e; injection e with e; injection e)
theorem five_of {α : Type} {l : List α} (h : l.length = 5) : ∃ a b c d e, l = [a, b, c, d, e] := by
  match l, h with
  | [a, b, c, d, e], _ => exact ⟨a, b, c, d, e, rfl⟩
end TW
set_option Elab.async false
set_option linter.all false
set_option maxRecDepth 100000
set_option maxHeartbeats 4000000
namespace TW
open PySem PySem.Spec PyProof.Rows L2
section
variable {P : Program} {w : World} {K : PySem.W.Frag} {mg : Str → Option Value} {base : Heap}
def sp_is_whole (K : PySem.W.Frag) : Sp := fun vs H Q _ => ∃ i : Int, vs = [.int i] ∧ Q (.bl true) H
theorem ok_is_whole (T : Txt K mg) : C8.Cal P w K mg base 1 "is_whole" (sp_is_whole K) [] := by
  obtain ⟨fd, F⟩ := T.d_is_whole
  refine cal_of F T.g_is_whole (fun _ _ _ _ _ _ us hl => match us, hl with | [_], _ => rfl) sc_is_whole (fun vs H Q E h => ?_) fun cdv A outer s H vs Q E hr h => ?_
  · obtain ⟨i, rfl, hq⟩ := h
    rfl
  · have hu := hu_of hr
    have hu64 := hr.units
    obtain ⟨i, rfl, hq⟩ := h
    refine ⟨_, (pss_one (ps_ret (pe_and (pe_callB call_isi (by rfl) T.f_isinstance (by decide +kernel) (pa_cons (pv 0) (pa_cons (pe_bltn (v := .ty "int") (u := .type "int") (by rfl) T.f_int (by decide +kernel) rfl) pa_nil))) (pe_one (pe_not (pe_callB call_isi (by rfl) T.f_isinstance (by decide +kernel) (pa_cons (pv 0) (pa_cons (pe_bltn (v := .ty "bool") (u := .type "bool") (by rfl) T.f_bool (by decide +kernel) rfl) pa_nil)))))))), ?_⟩
    exact ⟨_, rfl, ⟨_, _, _, _, _, rfl, .ty "int", .base (.int i), T.kit 0 rfl, true, rfl, iteT ⟨_, rfl, ⟨_, _, _, _, _, rfl, .ty "bool", .base (.int i), T.kit 1 rfl, false, rfl, hq⟩⟩⟩⟩
def sp_is_from (K : PySem.W.Frag) : Sp := fun vs H Q _ => ∃ i l : Int, vs = [.int i, .int l] ∧ l ≤ i ∧ Q (.bl true) H
theorem ok_is_from (T : Txt K mg) : C8.Cal P w K mg base 2 "is_from" (sp_is_from K) [] := by
  obtain ⟨fd, F⟩ := T.d_is_from
  refine cal_of F T.g_is_from (fun _ _ _ _ _ _ us hl => match us, hl with | [_, _], _ => rfl) sc_is_from (fun vs H Q E h => ?_) fun cdv A outer s H vs Q E hr h => ?_
  · obtain ⟨i, l, rfl, hl, hq⟩ := h
    rfl
  · have hu := hu_of hr
    have hu64 := hr.units
    obtain ⟨i, l, rfl, hl, hq⟩ := h
    refine ⟨_, (pss_one (ps_ret (pe_and (C8.pe_c (ok_is_whole T) hr (by decide) rfl (pa_cons (pv 0) pa_nil)) (pe_one (pe_cmpR op_ge (pv 0) (pv 1) (nomark _)))))), ?_⟩
    refine ⟨_, rfl, i, rfl, true, rfl, iteT ⟨_, rfl, _, rfl, _, _, rfl, rfl, ?_⟩⟩
    exact q_dec (Q := Q) hl hq
def sp_is_between (K : PySem.W.Frag) : Sp := fun vs H Q _ => ∃ i l m : Int, vs = [.int i, .int l, .int m] ∧ l ≤ i ∧ i ≤ m ∧ Q (.bl true) H
theorem ok_is_between (T : Txt K mg) : C8.Cal P w K mg base 2 "is_between" (sp_is_between K) [] := by
  obtain ⟨fd, F⟩ := T.d_is_between
  refine cal_of F T.g_is_between (fun _ _ _ _ _ _ us hl => match us, hl with | [_, _, _], _ => rfl) sc_is_between (fun vs H Q E h => ?_) fun cdv A outer s H vs Q E hr h => ?_
  · obtain ⟨i, l, m, rfl, hl, hm, hq⟩ := h
    rfl
  · have hu := hu_of hr
    have hu64 := hr.units
    obtain ⟨i, l, m, rfl, hl, hm, hq⟩ := h
    refine ⟨_, (pss_one (ps_ret (pe_and (C8.pe_c (ok_is_whole T) hr (by decide) rfl (pa_cons (pv 0) pa_nil)) (pe_one (pe_chain op_le op_le (pv 1) (pv 0) (pv 2)))))), ?_⟩
    refine ⟨_, rfl, i, rfl, true, rfl, iteT ?_⟩
    refine ⟨_, rfl, _, rfl, _, _, rfl, rfl, _, rfl, if_decT hl ⟨_, rfl, _, _, rfl, rfl, ?_⟩⟩
    exact q_dec (Q := Q) hm hq
def sp_is_long_year (K : PySem.W.Frag) : Sp := fun vs H Q _ => ∃ y : Int, vs = [.int y] ∧ ∀ b, Q (.bl b) H
theorem ok_is_long_year (T : Txt K mg) : C8.Cal P w K mg base 1 "is_long_year" (sp_is_long_year K) [] := by
  obtain ⟨fd, F⟩ := T.d_is_long_year
  refine cal_of F T.g_is_long_year (fun _ _ _ _ _ _ us hl => match us, hl with | [_], _ => rfl) sc_is_long_year (fun vs H Q E h => ?_) fun cdv A outer s H vs Q E hr h => ?_
  · obtain ⟨y, rfl, hq⟩ := h
    rfl
  · have hu := hu_of hr
    have hu64 := hr.units
    obtain ⟨y, rfl, hq⟩ := h
    refine ⟨_, (pss_cons (ps_if (pt_cmpR op_eq (pe_op op_mod (pv 0) pe_int) pe_int (nomark _)) (pss_one (ps_ret (pe_cmpR op_eq (pe_op op_mod (pv 0) pe_int) pe_int (nomark _)))) pss_nil)
    (pss_one (ps_ret (pe_cmpR op_eq (pe_op op_mod (pv 0) pe_int) pe_int (nomark _))))), ?_⟩
    exact ⟨_, rfl, _, _, rfl, rfl, (by show (0 : Int) < 100; decide), rfl, _, rfl, ite2 (fun _ => ⟨_, rfl, _, _, rfl, rfl, (by show (0 : Int) < 400; decide), rfl, hq _⟩) (fun _ => ⟨_, rfl, _, _, rfl, rfl, (by show (0 : Int) < 4; decide), rfl, hq _⟩)⟩
def sp_is_word (K : PySem.W.Frag) : Sp := fun vs H Q _ => ∃ x : Str, vs = [.str x] ∧ WordOk x ∧ ∀ H', Ext H H' → Q (.bl true) H'
theorem ok_is_word (T : Txt K mg) : C8.Cal P w K mg base 1 "is_word" (sp_is_word K) [] := by
  obtain ⟨fd, F⟩ := T.d_is_word
  obtain ⟨t_LETTERS, k_LETTERS⟩ := T.k_LETTERS
  obtain ⟨t_MOST_LETTERS, k_MOST_LETTERS⟩ := T.k_MOST_LETTERS
  refine cal_of F T.g_is_word (fun _ _ _ _ _ _ us hl => match us, hl with | [_], _ => rfl) sc_is_word (fun vs H Q E h => ?_) fun cdv A outer s H vs Q E hr h => ?_
  · obtain ⟨x, rfl, ok, hq⟩ := h
    rfl
  · have hu := hu_of hr
    have hu64 := hr.units
    obtain ⟨x, rfl, ok, hq⟩ := h
    refine ⟨_, (pss_cons (ps_if (PW.pt (pw_or (pt_not (pt_val (pe_callB call_isi (by rfl) T.f_isinstance (by decide +kernel) (pa_cons (pv 0) (pa_cons (pe_bltn (v := .ty "str") (u := .type "str") (by rfl) T.f_str (by decide +kernel) rfl) pa_nil))))) (pw_or1 (pt_not (pt_chain op_le op_le pe_int (pe_callB call_len (by rfl) T.f_len (by decide +kernel) (pa_cons (pv 0) pa_nil)) (pe_glob (v := .int 8) rfl k_MOST_LETTERS ⟨_, rfl⟩)))))) (pss_one (ps_ret pe_bl)) pss_nil)
    (pss_one (ps_ret (pe_callB (cr_all rfl) (by rfl) T.f_all (by decide +kernel) (pa_cons (pe_lc (own := [("sign", 1)]) (by rfl) sc_is_word.nd (pi_str (pv 0)) (blkOk_by (N := N_is_word) (sc := defScope s_is_word) (by decide +kernel)) (fun _ _ _ _ _ => (pg_name (i := 1) sc_is_word.nd rfl (by first | exact Or.inl rfl | exact Or.inr rfl))) (fun _ _ _ _ _ => by exact pts_nil) (fun _ _ _ _ _ => by exact (pe_cmpR op_in_sign (pv 1) (pe_glob (v := .str sLET) rfl k_LETTERS ⟨_, rfl⟩) rfl))) pa_nil))))), ?_⟩
    refine ⟨_, rfl, ⟨_, _, _, _, _, rfl, .ty "str", .base (.str x), T.kit 2 rfl, true, rfl, iteF ?_⟩⟩
    refine ⟨_, rfl, _, _, rfl, ⟨Nat.le_trans ok.hi (by decide), rfl⟩, _, _, rfl, rfl, _, rfl, if_decT (by have := ok.lo; omega) ⟨_, _, rfl, rfl, _, rfl, if_ndecF (by have := ok.hi; omega) ?_⟩⟩
    exact all_in (σ := L2.start N_is_word [.str x]) (i := 0) (j := 1) (Q := Q) rfl (show 1 < 2 by decide) ok.al (Nat.le_trans ok.hi (by decide)) hq
def sp_is_code (K : PySem.W.Frag) : Sp := fun vs H Q _ => ∃ x : Str, vs = [.str x] ∧ CodeOk x ∧ ∀ H', Ext H H' → Q (.bl true) H'
theorem ok_is_code (T : Txt K mg) : C8.Cal P w K mg base 1 "is_code" (sp_is_code K) [] := by
  obtain ⟨fd, F⟩ := T.d_is_code
  obtain ⟨t_CODE_SIGNS, k_CODE_SIGNS⟩ := T.k_CODE_SIGNS
  obtain ⟨t_MOST_SIGNS_entries, k_MOST_SIGNS_entries⟩ := T.k_MOST_SIGNS_entries
  refine cal_of F T.g_is_code (fun _ _ _ _ _ _ us hl => match us, hl with | [_], _ => rfl) sc_is_code (fun vs H Q E h => ?_) fun cdv A outer s H vs Q E hr h => ?_
  · obtain ⟨x, rfl, ok, hq⟩ := h
    rfl
  · have hu := hu_of hr
    have hu64 := hr.units
    obtain ⟨x, rfl, ok, hq⟩ := h
    refine ⟨_, (pss_cons (ps_if (PW.pt (pw_or (pt_not (pt_val (pe_callB call_isi (by rfl) T.f_isinstance (by decide +kernel) (pa_cons (pv 0) (pa_cons (pe_bltn (v := .ty "str") (u := .type "str") (by rfl) T.f_str (by decide +kernel) rfl) pa_nil))))) (pw_or1 (pt_not (pt_chain op_le op_le pe_int (pe_callB call_len (by rfl) T.f_len (by decide +kernel) (pa_cons (pv 0) pa_nil)) (pe_glob (v := .int 12) rfl k_MOST_SIGNS_entries ⟨_, rfl⟩)))))) (pss_one (ps_ret pe_bl)) pss_nil)
    (pss_one (ps_ret (pe_callB (cr_all rfl) (by rfl) T.f_all (by decide +kernel) (pa_cons (pe_lc (own := [("sign", 1)]) (by rfl) sc_is_code.nd (pi_str (pv 0)) (blkOk_by (N := N_is_code) (sc := defScope s_is_code) (by decide +kernel)) (fun _ _ _ _ _ => (pg_name (i := 1) sc_is_code.nd rfl (by first | exact Or.inl rfl | exact Or.inr rfl))) (fun _ _ _ _ _ => by exact pts_nil) (fun _ _ _ _ _ => by exact (pe_cmpR op_in_sign (pv 1) (pe_glob (v := .str sCOD) rfl k_CODE_SIGNS ⟨_, rfl⟩) rfl))) pa_nil))))), ?_⟩
    refine ⟨_, rfl, ⟨_, _, _, _, _, rfl, .ty "str", .base (.str x), T.kit 2 rfl, true, rfl, iteF ?_⟩⟩
    refine ⟨_, rfl, _, _, rfl, ⟨Nat.le_trans ok.hi (by decide), rfl⟩, _, _, rfl, rfl, _, rfl, if_decT (by have := ok.lo; omega) ⟨_, _, rfl, rfl, _, rfl, if_ndecF (by have := ok.hi; omega) ?_⟩⟩
    exact all_in (σ := L2.start N_is_code [.str x]) (i := 0) (j := 1) (Q := Q) rfl (show 1 < 2 by decide) ok.al (Nat.le_trans ok.hi (by decide)) hq
def sp_is_called (K : PySem.W.Frag) : Sp := fun vs H Q _ => ∃ x : Str, vs = [.str x] ∧ CalledOk x ∧ ∀ H', Ext H H' → Q (.bl true) H'
theorem ok_is_called (T : Txt K mg) : C8.Cal P w K mg base 1 "is_called" (sp_is_called K) [] := by
  obtain ⟨fd, F⟩ := T.d_is_called
  obtain ⟨t_MOST_SIGNS_names, k_MOST_SIGNS_names⟩ := T.k_MOST_SIGNS_names
  obtain ⟨t_SIGNS, k_SIGNS⟩ := T.k_SIGNS
  refine cal_of F T.g_is_called (fun _ _ _ _ _ _ us hl => match us, hl with | [_], _ => rfl) sc_is_called (fun vs H Q E h => ?_) fun cdv A outer s H vs Q E hr h => ?_
  · obtain ⟨x, rfl, ok, hq⟩ := h
    rfl
  · have hu := hu_of hr
    have hu64 := hr.units
    obtain ⟨x, rfl, ok, hq⟩ := h
    refine ⟨_, (pss_cons (ps_if (PW.pt (pw_or (pt_not (pt_val (pe_callB call_isi (by rfl) T.f_isinstance (by decide +kernel) (pa_cons (pv 0) (pa_cons (pe_bltn (v := .ty "str") (u := .type "str") (by rfl) T.f_str (by decide +kernel) rfl) pa_nil))))) (pw_or1 (pt_not (pt_chain op_le op_le pe_int (pe_callB call_len (by rfl) T.f_len (by decide +kernel) (pa_cons (pv 0) pa_nil)) (pe_glob (v := .int 40) rfl k_MOST_SIGNS_names ⟨_, rfl⟩)))))) (pss_one (ps_ret pe_bl)) pss_nil)
    (pss_cons (ps_if (pt_not (pt_val (pe_callB (cr_all rfl) (by rfl) T.f_all (by decide +kernel) (pa_cons (pe_lc (own := [("sign", 1)]) (by rfl) sc_is_called.nd (pi_str (pv 0)) (blkOk_by (N := N_is_called) (sc := defScope s_is_called) (by decide +kernel)) (fun _ _ _ _ _ => (pg_name (i := 1) sc_is_called.nd rfl (by first | exact Or.inl rfl | exact Or.inr rfl))) (fun _ _ _ _ _ => by exact pts_nil) (fun _ _ _ _ _ => by exact (pe_cmpR op_in_sign (pv 1) (pe_glob (v := .str sSIG) rfl k_SIGNS ⟨_, rfl⟩) rfl))) pa_nil)))) (pss_one (ps_ret pe_bl)) pss_nil)
    (pss_one (ps_ret (pe_and (pe_cmpR op_ne (pe_ix ix_str (pv 0) pe_int (fun _ _ => rfl)) pe_str (nomark _)) (pe_and (pe_cmpR op_ne (pe_ix ix_str (pv 0) (pe_un un_neg pe_int) (fun _ _ => rfl)) pe_str (nomark _)) (pe_one (pe_cmpR op_notIn_str pe_str (pv 0) rfl)))))))), ?_⟩
    have hlen : x.length ≤ sizeLine := Nat.le_trans ok.hi (by decide)
    have hl0 : 0 < x.cps.toList.length := by have := ok.lo; rw [Array.length_toList]; exact this
    obtain ⟨c0, h0⟩ : ∃ c, x.cps.toList[0]? = some c := ⟨_, List.getElem?_eq_getElem hl0⟩
    obtain ⟨c1, h1⟩ : ∃ c, x.cps.toList[x.cps.size - 1]? = some c := ⟨_, List.getElem?_eq_getElem (by rw [Array.length_toList] at hl0 ⊢; omega)⟩
    have e1 : atI x.cps.toList (-1) = some c1 := by
      have : ixN x.cps.toList.length (-1) = some (x.cps.size - 1) := by
        unfold ixN
        rw [if_neg (by decide), if_pos (by omega)]
        congr 1
        rw [Array.length_toList] at hl0 ⊢
        omega
      unfold atI
      rw [this]
      exact h1
    refine ⟨_, rfl, ⟨_, _, _, _, _, rfl, .ty "str", .base (.str x), T.kit 2 rfl, true, rfl, iteF ?_⟩⟩
    refine ⟨_, rfl, _, _, rfl, ⟨hlen, rfl⟩, _, _, rfl, rfl, _, rfl, if_decT (by have := ok.lo; omega) ⟨_, _, rfl, rfl, _, rfl, if_ndecF (by have := ok.hi; omega) ?_⟩⟩
    refine all_in (σ := L2.start N_is_called [.str x]) (i := 0) (j := 1) rfl (show 1 < 2 by decide) ok.al (Nat.le_trans ok.hi (by decide)) fun H1 e => ⟨true, rfl, iteF ?_⟩
    refine ⟨_, rfl, _, _, c0, rfl, rfl, hlen, atI_nat (j := 0) h0, rfl, _, rfl, if_ndecT (by rw [sp1]; exact one_ne (ok.first c0 (by rw [← Array.getElem?_toList]; exact h0))) ?_⟩
    refine ⟨_, rfl, 1, rfl, _, _, c1, rfl, rfl, hlen, e1, rfl, _, rfl, if_ndecT (by rw [sp1]; exact one_ne (ok.last c1 (by rw [← Array.getElem?_toList]; exact h1))) ?_⟩
    refine ⟨_, rfl, _, _, rfl, rfl, ?_⟩
    rw [sp2, show (!(!(Builtin.Str.occurrences x ⟨#[32, 32]⟩ 0 x.length 1).isEmpty)) = true by rw [ok.dbl]; rfl]
    exact hq H1 e
def sp_is_name (K : PySem.W.Frag) : Sp := fun vs H Q _ => ∃ v p, vs = [v] ∧ NameAt H v p ∧ NameOk p ∧ ∀ H', Ext H H' → Q (.bl true) H'
theorem ok_is_name (T : Txt K mg) : C8.Cal P w K mg base 2 "is_name" (sp_is_name K) [] := by
  obtain ⟨fd, F⟩ := T.d_is_name
  refine cal_of F T.g_is_name (fun _ _ _ _ _ _ us hl => match us, hl with | [_], _ => rfl) sc_is_name (fun vs H Q E h => ?_) fun cdv A outer s H vs Q E hr h => ?_
  · obtain ⟨v, p, rfl, ⟨a, rfl, ha⟩, ok, hq⟩ := h
    rfl
  · have hu := hu_of hr
    have hu64 := hr.units
    obtain ⟨v, p, rfl, ⟨a, rfl, ha⟩, ok, hq⟩ := h
    refine ⟨_, (pss_cons (ps_if (PW.pt (pw_or (pt_not (pt_val (pe_callB call_isi (by rfl) T.f_isinstance (by decide +kernel) (pa_cons (pv 0) (pa_cons (pe_bltn (v := .ty "tuple") (u := .type "tuple") (by rfl) T.f_tuple (by decide +kernel) rfl) pa_nil))))) (pw_or1 (pt_cmpR op_ne (pe_callB call_len (by rfl) T.f_len (by decide +kernel) (pa_cons (pv 0) pa_nil)) pe_int (nomark _))))) (pss_one (ps_ret pe_bl)) pss_nil)
    (pss_cons (ps_asg (pv 0) (pg_tup (by rfl) (pgs_cons (pg_name (i := 1) sc_is_name.nd rfl (by first | exact Or.inl rfl | exact Or.inr rfl)) (pgs_cons (pg_name (i := 2) sc_is_name.nd rfl (by first | exact Or.inl rfl | exact Or.inr rfl)) pgs_nil))))
    (pss_one (ps_ret (pe_and (C8.pe_c (ok_is_word T) hr (by decide) rfl (pa_cons (pv 1) pa_nil)) (pe_and (pe_chain op_le op_le pe_int (pe_callB call_len (by rfl) T.f_len (by decide +kernel) (pa_cons (pv 1) pa_nil)) pe_int) (pe_one (C8.pe_c (ok_is_called T) hr (by decide) rfl (pa_cons (pv 2) pa_nil))))))))), ?_⟩
    refine ⟨_, rfl, ⟨_, _, _, _, _, rfl, .ty "tuple", .base (.tup ha), T.kit 3 rfl, true, rfl, iteF ?_⟩⟩
    refine ⟨_, rfl, _, 2, rfl, .inr ⟨_, SqT.of ha, rfl⟩, rfl, _, rfl, if_ndecF rfl ?_⟩
    refine ⟨_, rfl, a, _, rfl, SqT.of ha, rfl, _, _, rfl, _, _, rfl, rfl, ?_⟩
    refine ⟨_, rfl, p.1, rfl, ⟨by have := ok.lo; omega, by have := ok.hi; omega, ok.al⟩, fun H1 e1 => ⟨true, rfl, iteT ?_⟩⟩
    refine ⟨_, rfl, _, _, rfl, ⟨by have := ok.hi; exact Nat.le_trans this (by decide), rfl⟩, _, _, rfl, rfl, _, rfl, if_decT (by have := ok.lo; omega) ⟨_, _, rfl, rfl, ?_⟩⟩
    refine ⟨_, rfl, if_decT (by have := ok.hi; omega) ?_⟩
    exact ⟨_, rfl, p.2, rfl, ok.called, fun H2 e2 => hq H2 (e1.trans e2)⟩
def sp_is_key (K : PySem.W.Frag) : Sp := fun vs H Q _ => ∃ v k, vs = [v] ∧ KeyAt H v k ∧ KeyOk k ∧ ∀ H', Ext H H' → Q (.bl true) H'
theorem ok_is_key (T : Txt K mg) : C8.Cal P w K mg base 3 "is_key" (sp_is_key K) [] := by
  obtain ⟨fd, F⟩ := T.d_is_key
  refine cal_of F T.g_is_key (fun _ _ _ _ _ _ us hl => match us, hl with | [_], _ => rfl) sc_is_key (fun vs H Q E h => ?_) fun cdv A outer s H vs Q E hr h => ?_
  · obtain ⟨v, k, rfl, ⟨a, rfl, ha⟩, ok, hq⟩ := h
    rfl
  · have hu := hu_of hr
    have hu64 := hr.units
    obtain ⟨v, k, rfl, ⟨a, rfl, ha⟩, ok, hq⟩ := h
    refine ⟨_, (pss_one (ps_ret (pe_and (pe_callB call_isi (by rfl) T.f_isinstance (by decide +kernel) (pa_cons (pv 0) (pa_cons (pe_bltn (v := .ty "tuple") (u := .type "tuple") (by rfl) T.f_tuple (by decide +kernel) rfl) pa_nil))) (pe_and (pe_cmpR op_eq (pe_callB call_len (by rfl) T.f_len (by decide +kernel) (pa_cons (pv 0) pa_nil)) pe_int (nomark _)) (pe_and (C8.pe_c (ok_is_word T) hr (by decide) rfl (pa_cons (pe_ix ix_tup (pv 0) pe_int (fun _ _ => rfl)) pa_nil)) (pe_one (C8.pe_c (ok_is_from T) hr (by decide) rfl (pa_cons (pe_ix ix_tup (pv 0) pe_int (fun _ _ => rfl)) (pa_cons pe_int pa_nil))))))))), ?_⟩
    refine ⟨_, rfl, ⟨_, _, _, _, _, rfl, .ty "tuple", .base (.tup ha), T.kit 3 rfl, true, rfl, iteT ?_⟩⟩
    refine ⟨_, rfl, _, 2, rfl, .inr ⟨_, SqT.of ha, rfl⟩, rfl, _, rfl, if_decT rfl ?_⟩
    refine ⟨_, rfl, _, _, _, _, rfl, rfl, SqT.of ha, atI_nat (j := 0) rfl, k.1, rfl, ok.house, fun H1 e1 => ⟨true, rfl, iteT ?_⟩⟩
    exact ⟨_, rfl, _, _, _, _, rfl, rfl, SqT.of (e1 _ _ ha), atI_nat (j := 1) rfl, k.2, 0, rfl, ok.lo, hq H1 e1⟩
def sp_days_in (K : PySem.W.Frag) : Sp := fun vs H Q _ => ∃ y m : Int, vs = [.int y, .int m] ∧ 1 ≤ m ∧ m ≤ 12 ∧ ∀ n : Int, 28 ≤ n → Q (.int n) H
theorem ok_days_in (T : Txt K mg) : C8.Cal P w K mg base 2 "days_in" (sp_days_in K) [] := by
  obtain ⟨fd, F⟩ := T.d_days_in
  refine cal_of F T.g_days_in (fun _ _ _ _ _ _ us hl => match us, hl with | [_, _], _ => rfl) sc_days_in (fun vs H Q E h => ?_) fun cdv A outer s H vs Q E hr h => ?_
  · obtain ⟨y, m, rfl, h1, h2, hq⟩ := h
    rfl
  · have hu := hu_of hr
    have hu64 := hr.units
    obtain ⟨y, m, rfl, h1, h2, hq⟩ := h
    refine ⟨_, (pss_one (ps_ret (pe_op op_add (pe_ix ix_tup (pe_glob (v := .ref (He.ga K "MONTHS")) rfl T.g_MONTHS rfl) (pe_op op_sub (pv 1) pe_int) (fun _ _ => rfl)) (pe_callTy call_int1 (by rfl) T.f_int (by decide +kernel) (pa_cons (pe_and (pe_cmpR op_eq (pv 1) pe_int (nomark _)) (pe_one (C8.pe_c (ok_is_long_year T) hr (by decide) rfl (pa_cons (pv 0) pa_nil)))) pa_nil))))), ?_⟩
    obtain ⟨d, hd, hd28⟩ : ∃ d : Int, atI ([31, 28, 31, 30, 31, 30, 31, 31, 30, 31, 30, 31].map V.int) (m - 1) = some (.int d) ∧ 28 ≤ d := by
      have : m = 1 ∨ m = 2 ∨ m = 3 ∨ m = 4 ∨ m = 5 ∨ m = 6 ∨ m = 7 ∨ m = 8 ∨ m = 9 ∨ m = 10 ∨ m = 11 ∨ m = 12 := by omega
      rcases this with e | e | e | e | e | e | e | e | e | e | e | e <;> subst e <;> exact ⟨_, rfl, by decide⟩
    refine ⟨_, rfl, _, _, rfl, rfl, _, _, _, _, rfl, rfl, T.months H, hd, ?_⟩
    refine ⟨_, rfl, rfl, _, rfl, ite2 (fun _ => ⟨_, rfl, y, rfl, fun b => Or.inr ⟨b, rfl, _, _, rfl, rfl, hq _ ?_⟩⟩) fun _ => Or.inr ⟨false, rfl, _, _, rfl, rfl, hq _ ?_⟩⟩
    · cases b <;> simp <;> omega
    · simp; omega
end
end TW
set_option Elab.async false
set_option linter.all false
set_option maxRecDepth 100000
set_option maxHeartbeats 4000000
namespace TW
open PySem PySem.Spec PyProof.Rows L2
section
variable {P : Program} {w : World} {K : PySem.W.Frag} {mg : Str → Option Value} {base : Heap}

theorem upd2 {H : Hp} {p : Addr} {o o' : HO} : upd (upd H p o) p o' = upd H p o' := by
  funext b
  by_cases e : b = p
  · rw [e, upd_same, upd_same]
  · rw [upd_ne e, upd_ne e, upd_ne e]
def oiD : Option Int → PyData
  | none => .none
  | some i => .int i
theorem dp_oi {H : Hp} (o : Option Int) : Dp K H (oi o) (oiD o) := by
  cases o with
  | none => exact .non
  | some i => exact .int i
theorem oi_non {o : Option Int} : (oi o = V.non) ↔ o = none := by
  cases o with
  | none => simp [oi]
  | some i => simp [oi]
def dayFs (y : Int) (m d : Option Int) : List (Str × V) := [("year", .int y), ("month", oi m), ("day", oi d)]
def dayD (y : Int) (m d : Option Int) : PyData := .tuple [.int y, oiD m, oiD d]
theorem dp_day {H : Hp} {p : Addr} {y : Int} {m d : Option Int} (h : H p = some (.tup [.int y, oi m, oi d])) : Dp K H (.ref p) (dayD y m d) := .tup (SqT.of h) (.cons (.int y) (.cons (dp_oi m) (.cons (dp_oi d) .nil)))
theorem shaped_day (y : Int) (m d : Option Int) : SeqAt.shaped (dayD y m d) = true := by cases m <;> cases d <;> rfl
theorem eqv_day {y y' : Int} {m m' d d' : Option Int} : PyData.eqv (dayD y m d) (dayD y' m' d') = decide ((y, m, d) = (y', m', d')) := by
  unfold dayD
  cases m <;> cases m' <;> cases d <;> cases d' <;> simp [PyData.eqv, PyData.eqvAll, oiD, Bool.decide_and, Bool.beq_eq_decide_eq]
  all_goals first | rfl | (rw [Bool.eq_iff_iff]; simp)
def sp_are_parts (K : PySem.W.Frag) : Sp := fun vs H Q _ => ∃ y m d, vs = [.int y, oi m, oi d] ∧ DayOk y m d ∧ Q (.bl true) H
theorem ok_are_parts (T : Txt K mg) : C8.Cal P w K mg base 3 "are_parts" (sp_are_parts K) [] := by
  obtain ⟨fd, F⟩ := T.d_are_parts
  obtain ⟨t_MOST_YEAR, k_MOST_YEAR⟩ := T.k_MOST_YEAR
  refine cal_of F T.g_are_parts (fun _ _ _ _ _ _ us hl => match us, hl with | [_, _, _], _ => rfl) sc_are_parts (fun vs H Q E h => ?_) fun cdv A outer s H vs Q E hr h => ?_
  · obtain ⟨y, m, d, rfl, ok, hq⟩ := h
    rfl
  · have hu := hu_of hr
    have hu64 := hr.units
    obtain ⟨y, m, d, rfl, ok, hq⟩ := h
    refine ⟨_, (pss_cons (ps_if (pt_not (pt_val (C8.pe_c (ok_is_between T) hr (by decide) rfl (pa_cons (pv 0) (pa_cons pe_int (pa_cons (pe_glob (v := .int 9999) rfl k_MOST_YEAR ⟨_, rfl⟩) pa_nil)))))) (pss_one (ps_ret pe_bl)) pss_nil)
    (pss_cons (ps_if (pt_cmpR op_isN (pv 1) pe_non (nomark _)) (pss_one (ps_ret (pe_cmpR op_isN (pv 2) pe_non (nomark _)))) pss_nil)
    (pss_cons (ps_if (pt_not (pt_val (C8.pe_c (ok_is_between T) hr (by decide) rfl (pa_cons (pv 1) (pa_cons pe_int (pa_cons (pe_callB call_len (by rfl) T.f_len (by decide +kernel) (pa_cons (pe_glob (v := .ref (He.ga K "MONTHS")) rfl T.g_MONTHS rfl) pa_nil)) pa_nil)))))) (pss_one (ps_ret pe_bl)) pss_nil)
    (pss_one (ps_ret (pe_or (pe_cmpR op_isN (pv 2) pe_non (nomark _)) (pe_one (C8.pe_c (ok_is_between T) hr (by decide) rfl (pa_cons (pv 2) (pa_cons pe_int (pa_cons (C8.pe_c (ok_days_in T) hr (by decide) rfl (pa_cons (pv 0) (pa_cons (pv 1) pa_nil))) pa_nil))))))))))), ?_⟩
    refine ⟨_, rfl, y, 1, 9999, rfl, ok.ylo, ok.yhi, true, rfl, iteF ?_⟩
    refine ⟨_, rfl, rfl, _, rfl, ?_⟩
    cases m with
    | none =>
      refine if_decT rfl ⟨_, rfl, rfl, ?_⟩
      exact q_dec (Q := Q) (oi_non.mpr (ok.mon rfl)) hq
    | some i =>
      obtain ⟨h1, h2⟩ := ok.mr i rfl
      refine if_decF (fun z => nomatch z) ⟨_, rfl, _, 12, rfl, .inr ⟨_, T.months H, rfl⟩, i, 1, 12, rfl, h1, h2, true, rfl, iteF ?_⟩
      refine ⟨_, rfl, rfl, _, rfl, ?_⟩
      cases d with
      | none => exact if_decT rfl hq
      | some j =>
        obtain ⟨h3, h4⟩ := ok.dr j rfl
        exact if_decF (fun z => nomatch z) ⟨_, rfl, _, rfl, _, rfl, y, i, rfl, h1, h2, fun n hn => ⟨j, 1, n, rfl, h3, by omega, hq⟩⟩
def sp_parts_of (K : PySem.W.Frag) : Sp := fun vs H Q _ => ∃ a dx y m d, vs = [.ref a] ∧ H a = some (.ins (cDay K) dx (dayFs y m d)) ∧ ∀ p, H p = none → Q (.ref p) (upd H p (.tup [.int y, oi m, oi d]))
theorem ok_parts_of (T : Txt K mg) : C8.Cal P w K mg base 1 "parts_of" (sp_parts_of K) [] := by
  obtain ⟨fd, F⟩ := T.d_parts_of
  refine cal_of F T.g_parts_of (fun _ _ _ _ _ _ us hl => match us, hl with | [_], _ => rfl) sc_parts_of (fun vs H Q E h => ?_) fun cdv A outer s H vs Q E hr h => ?_
  · obtain ⟨a, dx, y, m, d, rfl, ha, hq⟩ := h
    rfl
  · have hu := hu_of hr
    have hu64 := hr.units
    obtain ⟨a, dx, y, m, d, rfl, ha, hq⟩ := h
    refine ⟨_, (pss_one (ps_ret (pe_tup (pa_cons (pe_fld (pv 0) rfl) (pa_cons (pe_fld (pv 0) rfl) (pa_cons (pe_fld (pv 0) rfl) pa_nil)))))), ?_⟩
    refine ⟨_, rfl, a, _, dx, _, _, rfl, ha, T.c_Day, T.n_Day_year, rfl, ?_⟩
    refine ⟨_, rfl, a, _, dx, _, _, rfl, ha, T.c_Day, T.n_Day_month, rfl, ?_⟩
    refine ⟨_, rfl, a, _, dx, _, _, rfl, ha, T.c_Day, T.n_Day_day, rfl, ?_⟩
    exact ⟨by show 3 ≤ sizeLine; decide, hq⟩

def RDay (K : PySem.W.Frag) : Addr → Addr → Hp → Bool → Prop := fun a b H r => ∃ dx y m d dx' y' m' d', H a = some (.ins (cDay K) dx (dayFs y m d)) ∧ H b = some (.ins (cDay K) dx' (dayFs y' m' d')) ∧ r = decide ((y, m, d) = (y', m', d'))
def sp_Day_eq (K : PySem.W.Frag) : Sp := spEqB (RDay K)
theorem ok_Day_eq (T : Txt K mg) : C8.Met P w K mg base 2 (He.ga K "Day") "__eq__" (sp_Day_eq K) [] := by
  obtain ⟨fd, F⟩ := T.d_Day_eq
  refine met_of T.c_Day T.t_Day_eq F (fun _ _ _ _ _ _ us hl => match us, hl with | [_, _], _ => rfl) sc_Day_eq (fun vs H Q E h => ?_) fun cdv A outer s H vs Q E hr h => ?_
  · obtain ⟨a, b, r, rfl, ⟨dx, y, m, d, dx', y', m', d', ha, hb, hr'⟩, hq⟩ := h
    rfl
  · have hu := hu_of hr
    have hu64 := hr.units
    obtain ⟨a, b, r, rfl, ⟨dx, y, m, d, dx', y', m', d', ha, hb, hr'⟩, hq⟩ := h
    refine ⟨_, (pss_cons (ps_if (pt_not (pt_val (pe_callB call_isi (by rfl) T.f_isinstance (by decide +kernel) (pa_cons (pv 1) (pa_cons (pe_glob (v := .ref (He.ga K "Day")) rfl T.g_Day rfl) pa_nil))))) (pss_one (ps_ret pe_bl)) pss_nil)
    (pss_one (ps_ret (pe_cmpR (op_eqD hu64) (C8.pe_c (ok_parts_of T) hr (by decide) rfl (pa_cons (pv 0) pa_nil)) (C8.pe_c (ok_parts_of T) hr (by decide) rfl (pa_cons (pv 1) pa_nil)) (nomark _))))), ?_⟩
    refine ⟨_, rfl, ⟨_, _, _, _, _, rfl, .own _, T.ty_Day hb, T.kit 9 rfl, true, rfl, iteF ?_⟩⟩
    refine ⟨_, rfl, a, dx, y, m, d, rfl, ha, fun p hp => ?_⟩
    refine ⟨_, rfl, b, dx', y', m', d', rfl, Ext.upd hp _ _ hb, fun q hq' => ?_⟩
    refine ⟨dayD y m d, dayD y' m' d', dp_day (Ext.upd hq' _ _ upd_same), dp_day upd_same, shaped_day _ _ _, shaped_day _ _ _, ?_⟩
    rw [eqv_day, ← hr']
    exact hq _ ((Ext.upd hp).trans (Ext.upd hq'))

def RLen (K : PySem.W.Frag) : Addr → Addr → Hp → Bool → Prop := fun a b H r => ∃ dx n dx' n', H a = some (.ins (cLength K) dx [("seconds", .int n)]) ∧ H b = some (.ins (cLength K) dx' [("seconds", .int n')]) ∧ r = decide (n = n')
def sp_Length_eq (K : PySem.W.Frag) : Sp := spEqB (RLen K)
theorem ok_Length_eq (T : Txt K mg) : C8.Met P w K mg base 1 (He.ga K "Length") "__eq__" (sp_Length_eq K) [] := by
  obtain ⟨fd, F⟩ := T.d_Length_eq
  refine met_of T.c_Length T.t_Length_eq F (fun _ _ _ _ _ _ us hl => match us, hl with | [_, _], _ => rfl) sc_Length_eq (fun vs H Q E h => ?_) fun cdv A outer s H vs Q E hr h => ?_
  · obtain ⟨a, b, r, rfl, ⟨dx, n, dx', n', ha, hb, hr'⟩, hq⟩ := h
    rfl
  · have hu := hu_of hr
    have hu64 := hr.units
    obtain ⟨a, b, r, rfl, ⟨dx, n, dx', n', ha, hb, hr'⟩, hq⟩ := h
    refine ⟨_, (pss_cons (ps_if (pt_not (pt_val (pe_callB call_isi (by rfl) T.f_isinstance (by decide +kernel) (pa_cons (pv 1) (pa_cons (pe_glob (v := .ref (He.ga K "Length")) rfl T.g_Length rfl) pa_nil))))) (pss_one (ps_ret pe_bl)) pss_nil)
    (pss_one (ps_ret (pe_cmpR op_eq (pe_fld (pv 0) rfl) (pe_fld (pv 1) rfl) (nomark _))))), ?_⟩
    refine ⟨_, rfl, ⟨_, _, _, _, _, rfl, .own _, T.ty_Length hb, T.kit 12 rfl, true, rfl, iteF ?_⟩⟩
    refine ⟨_, rfl, a, _, dx, _, _, rfl, ha, T.c_Length, T.n_Length_seconds, rfl, ?_⟩
    refine ⟨_, rfl, b, _, dx', _, _, rfl, hb, T.c_Length, T.n_Length_seconds, rfl, rfl, ?_⟩
    rw [show decide (V.int n = V.int n') = r by rw [hr']; exact decide_eq_decide.mpr ⟨fun e => by injection e, fun e => by rw [e]⟩]
    exact hq _ Ext.rfl'
def sp_Day_init (K : PySem.W.Frag) : Sp := fun vs H Q _ => ∃ p dx y m d, vs = [.ref p, .int y, oi m, oi d] ∧ H p = some (.ins (cDay K) dx []) ∧ DayOk y m d ∧ Q .non (upd H p (.ins (cDay K) dx (dayFs y m d)))
theorem fo_Day_init (T : Txt K mg) : ∃ fd, FunD K "__init__" "Day.__init__" (defArgs s_Day_init) (defBody s_Day_init) (defScope s_Day_init) [V.non, V.non] [] (He.ma K (He.ga K "Day") "__init__") fd ∧ FnOk P w K mg base C8.CX0 4 (He.ma K (He.ga K "Day") "__init__") fd ["self", "year", "month", "day"] (sp_Day_init K) := by
  obtain ⟨fd, F⟩ := T.d_Day_init
  refine ⟨fd, F, F.ok sc_Day_init (fun vs H Q E h => ?_) fun cdv A outer s H vs Q E hr h => ?_⟩
  · obtain ⟨p, dx, y, m, d, rfl, hp, ok, hq⟩ := h
    rfl
  · have hu := hu_of hr
    have hu64 := hr.units
    obtain ⟨p, dx, y, m, d, rfl, hp, ok, hq⟩ := h
    refine ⟨_, PSs.nox (pss_cons (ps_if (pt_not (pt_val (C8.pe_c (ok_are_parts T) hr (by decide) rfl (pa_cons (pv 1) (pa_cons (pv 2) (pa_cons (pv 3) pa_nil)))))) (pss_one ps_never) pss_nil)
    (pss_cons (ps_fld (pv 0) (pv 1) rfl)
    (pss_cons (ps_fld (pv 0) (pv 2) rfl)
    (pss_one (ps_fld (pv 0) (pv 3) rfl))))), ?_⟩
    refine ⟨_, rfl, _, rfl, _, rfl, y, m, d, rfl, ok, true, rfl, iteF ?_⟩
    refine ⟨_, rfl, _, rfl, p, _, dx, _, rfl, hp, T.c_Day, T.n_Day_year, by decide, ?_⟩
    refine ⟨_, rfl, _, rfl, p, _, dx, _, rfl, upd_same, T.c_Day, T.n_Day_month, (show 1 < 1000 by decide), ?_⟩
    refine ⟨_, rfl, _, rfl, p, _, dx, _, rfl, upd_same, T.c_Day, T.n_Day_day, (show 2 < 1000 by decide), ?_⟩
    rw [upd2, upd2]
    exact hq
theorem mk_Day_1 (T : Txt K mg) : C8.Mak P w K mg base 4 "Day" (He.ga K "Day") (sp_Day_init K) [V.non, V.non] := by
  obtain ⟨fd, F, ok⟩ := fo_Day_init (P := P) (w := w) (base := base) T
  obtain ⟨ds, v, b⟩ := FunD.binds1 F 2 0 (by simp) rfl (ps := ["self", "year", "month", "day"]) (fun _ _ _ _ _ _ _ us its h1 h2 => match us, its, h1, h2 with | [u0, u1], [d0, d1], _, _ => ⟨_, rfl, rfl⟩)
  exact ⟨_, fd, _, ds, T.m_Day, ok, T.g_Day, b, v⟩
theorem mk_Day_2 (T : Txt K mg) : C8.Mak P w K mg base 4 "Day" (He.ga K "Day") (sp_Day_init K) [V.non] := by
  obtain ⟨fd, F, ok⟩ := fo_Day_init (P := P) (w := w) (base := base) T
  obtain ⟨ds, v, b⟩ := FunD.binds1 F 3 1 (by simp) rfl (ps := ["self", "year", "month", "day"]) (fun _ _ _ _ _ _ _ us its h1 h2 => match us, its, h1, h2 with | [u0, u1, u2], [d0, d1], _, _ => ⟨_, rfl, rfl⟩)
  exact ⟨_, fd, _, ds, T.m_Day, ok, T.g_Day, b, v⟩
theorem mk_Day_3 (T : Txt K mg) : C8.Mak P w K mg base 4 "Day" (He.ga K "Day") (sp_Day_init K) [] := by
  obtain ⟨fd, F, ok⟩ := fo_Day_init (P := P) (w := w) (base := base) T
  obtain ⟨ds, v, b⟩ := FunD.binds1 F 4 2 (by simp) rfl (ps := ["self", "year", "month", "day"]) (fun _ _ _ _ _ _ _ us its h1 h2 => match us, its, h1, h2 with | [u0, u1, u2, u3], [d0, d1], _, _ => ⟨_, rfl, rfl⟩)
  exact ⟨_, fd, _, ds, T.m_Day, ok, T.g_Day, b, v⟩
def sp_Length_init (K : PySem.W.Frag) : Sp := fun vs H Q _ => ∃ p dx n, vs = [.ref p, .int n] ∧ H p = some (.ins (cLength K) dx []) ∧ 0 ≤ n ∧ n ≤ 359999 ∧ Q .non (upd H p (.ins (cLength K) dx [("seconds", .int n)]))
theorem fo_Length_init (T : Txt K mg) : ∃ fd, FunD K "__init__" "Length.__init__" (defArgs s_Length_init) (defBody s_Length_init) (defScope s_Length_init) [] [] (He.ma K (He.ga K "Length") "__init__") fd ∧ FnOk P w K mg base C8.CX0 3 (He.ma K (He.ga K "Length") "__init__") fd ["self", "seconds"] (sp_Length_init K) := by
  obtain ⟨fd, F⟩ := T.d_Length_init
  obtain ⟨t_MOST_SECONDS, k_MOST_SECONDS⟩ := T.k_MOST_SECONDS
  refine ⟨fd, F, F.ok sc_Length_init (fun vs H Q E h => ?_) fun cdv A outer s H vs Q E hr h => ?_⟩
  · obtain ⟨p, dx, n, rfl, hp, h0, h1, hq⟩ := h
    rfl
  · have hu := hu_of hr
    have hu64 := hr.units
    obtain ⟨p, dx, n, rfl, hp, h0, h1, hq⟩ := h
    refine ⟨_, PSs.nox (pss_cons (ps_if (PW.pt (pw_or (pt_not (pt_val (C8.pe_c (ok_is_from T) hr (by decide) rfl (pa_cons (pv 1) (pa_cons pe_int pa_nil))))) (pw_or1 (pt_cmpR op_gt (pv 1) (pe_glob (v := .int 359999) rfl k_MOST_SECONDS ⟨_, rfl⟩) (nomark _))))) (pss_one ps_never) pss_nil)
    (pss_one (ps_fld (pv 0) (pv 1) rfl))), ?_⟩
    refine ⟨_, rfl, n, 0, rfl, h0, true, rfl, iteF ⟨_, rfl, _, _, rfl, rfl, _, rfl, if_decF (by omega) ?_⟩⟩
    refine ⟨_, rfl, _, rfl, p, _, dx, _, rfl, hp, T.c_Length, T.n_Length_seconds, by decide, ?_⟩
    exact hq
theorem mk_Length_1 (T : Txt K mg) : C8.Mak P w K mg base 3 "Length" (He.ga K "Length") (sp_Length_init K) [] := by
  obtain ⟨fd, F, ok⟩ := fo_Length_init (P := P) (w := w) (base := base) T
  exact ⟨_, fd, _, [], T.m_Length, ok, T.g_Length, FunD.bindsN F (fun _ _ _ _ _ _ us hl => match us, hl with | [_, _], _ => rfl), .nil⟩
end
end TW
set_option Elab.async false
set_option linter.all false
set_option maxRecDepth 100000
set_option maxHeartbeats 4000000
namespace TW
open PySem PySem.Spec PyProof.Rows L2
theorem seq_cut {t u : TS} {D : Ends} {σ : L2.St} {H : Hp} (P : L2.St → Hp → Prop) (ht : ∀ N : L2.St → Hp → Prop, (∀ σ H, P σ H → N σ H) → t { D with nx := N } σ H) (hu : ∀ σ H, P σ H → u D σ H) : tSeq t u D σ H := ht _ hu
/-! ### texts -/
def dec (i : Int) : Str := Str.ofString (toString i)
theorem dec_len {i : Int} (h0 : 0 ≤ i) {k : Nat} (hk : 0 < k) (h : i < 10 ^ k) : (dec i).length ≤ k := PyProof.Rows.toString_length_le h0 hk h
theorem zfill_len (x : Str) (i : Int) : (Txt.zfill x i).length ≤ x.length + i.toNat := by
  show (if i ≤ x.length then x else zfilled x (i.toNat - x.length)).length ≤ _
  split
  · omega
  · unfold zfilled
    have key : ∀ c, x.cps[0]? = some c → 1 ≤ x.length := fun c hc => (Array.getElem?_eq_some_iff.mp hc).1
    split
    · rename_i hc'
      have h2 := key _ hc'
      rw [size_cat, size_padded, size_strSub x 0 1 h2, size_strSub x 1 x.length (Nat.le_refl _)]; omega
    · rename_i hc'
      have h2 := key _ hc'
      rw [size_cat, size_padded, size_strSub x 0 1 h2, size_strSub x 1 x.length (Nat.le_refl _)]; omega
    · rw [size_padded]; omega
theorem sjoin_len (sep : Str) : ∀ ts : List Str, (Str.join sep ts).length ≤ (ts.map (·.length)).sum + ts.length * sep.length
  | [] => Nat.zero_le _
  | [x] => by
    show x.length ≤ x.length + 0 + 1 * sep.length
    omega
  | x :: y :: r => by
    have ih := sjoin_len sep (y :: r)
    show (x ++ sep ++ Str.join sep (y :: r)).length ≤ _
    rw [strLen_append, strLen_append, List.map_cons, List.sum_cons, List.length_cons, Nat.add_mul]
    omega
theorem join_len (sep : Str) (ts : List Str) : (Txt.join sep ts).length ≤ (ts.map (·.length)).sum + ts.length * sep.length := by
  show (Builtin.Str.glued sep ts).length ≤ _
  rw [PySem.StrLaws.glued_eq_join]
  exact sjoin_len sep ts
theorem log2_lt {i : Int} {k : Nat} (h : i.natAbs < 2 ^ k) (hk : k ≤ 1900) : i.natAbs.log2 < 1920 := by
  by_cases z : i.natAbs = 0
  · rw [z]; decide
  · have := (Nat.log2_lt z).mpr h
    omega
def dayParts (m d : Option Int) : List Str := (m.toList ++ d.toList).map fun i => Txt.zfill (dec i) 2
def dayStr (y : Int) (m d : Option Int) : Str := Txt.join "-" (Txt.zfill (dec y) 4 :: dayParts m d)
def lenStr (n : Int) : Str := Str.empty ++ dec (n / 60) ++ ":" ++ Txt.zfill (dec (n % 60)) 2
def showName (p : Str × Str) : Str := Str.empty ++ p.1 ++ ":" ++ p.2
def showKey (k : LKey) : Str := Str.empty ++ k.1 ++ " " ++ dec k.2
def showTh : Th → Str
  | .code s => "code " ++ s
  | .name t x => "title " ++ showName (t, x)
  | .players l => "by " ++ Txt.join ", " (l.map showName)
  | .day y m d => "day " ++ dayStr y m d
  | .len n => "long " ++ lenStr n
def showE (e : Ent) : Str := Txt.join " | " (showKey e.key :: e.th.flatMap fun o => match o with | none => [] | some th => [showTh th])
theorem day_sum {y : Int} {m d : Option Int} (ok : DayOk y m d) : ((Txt.zfill (dec y) 4 :: dayParts m d).map (·.length)).sum + (Txt.zfill (dec y) 4 :: dayParts m d).length * ("-" : Str).length ≤ 40 := by
  have h2 := zfill_len (dec y) 4
  have h3 := dec_len (i := y) (k := 4) (by have := ok.ylo; omega) (by decide) (by have := ok.yhi; omega)
  have hs : (("-" : Str)).length = 1 := rfl
  have hm : ∀ i, m = some i → (Txt.zfill (dec i) 2).length ≤ 4 := fun i e => by
    obtain ⟨a, b⟩ := ok.mr i e
    have h2 := zfill_len (dec i) 2
    have h3 := dec_len (i := i) (k := 2) (by omega) (by decide) (by omega)
    have : (2 : Int).toNat = 2 := rfl
    omega
  have hd : ∀ i, d = some i → (Txt.zfill (dec i) 2).length ≤ 4 := fun i e => by
    obtain ⟨a, b⟩ := ok.dr i e
    have h2 := zfill_len (dec i) 2
    have h3 := dec_len (i := i) (k := 2) (by omega) (by decide) (by omega)
    have : (2 : Int).toNat = 2 := rfl
    omega
  have h4 : (4 : Int).toNat = 4 := rfl
  rw [hs]
  unfold dayParts
  cases m with
  | none =>
    cases d with
    | none => simp; omega
    | some j => have := hd j rfl; simp; omega
  | some i =>
    have hi := hm i rfl
    cases d with
    | none => simp; omega
    | some j => have := hd j rfl; simp; omega
theorem dayStr_len {y : Int} {m d : Option Int} (ok : DayOk y m d) : (dayStr y m d).length ≤ 40 := Nat.le_trans (join_len _ _) (day_sum ok)
theorem lenStr_len {n : Int} (h0 : 0 ≤ n) (h1 : n ≤ 359999) : (lenStr n).length ≤ 40 := by
  unfold lenStr
  rw [strLen_append, strLen_append, strLen_append]
  have a1 := dec_len (i := n / 60) (k := 6) (by omega) (by decide) (by omega)
  have a2 := zfill_len (dec (n % 60)) 2
  have a3 := dec_len (i := n % 60) (k := 2) (by omega) (by decide) (by omega)
  have e1 : (Str.empty).length = 0 := rfl
  have e2 : ((":" : Str)).length = 1 := rfl
  have e3 : (2 : Int).toNat = 2 := rfl
  omega
theorem showName_len {p : Str × Str} (ok : NameOk p) : (showName p).length ≤ 44 := by
  unfold showName
  rw [strLen_append, strLen_append, strLen_append]
  have e1 : (Str.empty).length = 0 := rfl
  have e2 : ((":" : Str)).length = 1 := rfl
  have := ok.hi
  have := ok.called.hi
  omega
theorem showKey_len {k : LKey} (ok : KeyOk k) : (showKey k).length ≤ 40 := by
  unfold showKey
  rw [strLen_append, strLen_append, strLen_append]
  have e1 : (Str.empty).length = 0 := rfl
  have e2 : ((" " : Str)).length = 1 := rfl
  have a1 := dec_len (i := k.2) (k := 31) ok.lo (by decide) ok.hi
  have := ok.house.hi
  omega
theorem sum_le {α : Type} {f : α → Nat} {c : Nat} : ∀ {l : List α}, (∀ a ∈ l, f a ≤ c) → (l.map f).sum ≤ c * l.length
  | [], _ => Nat.zero_le _
  | a :: l, h => by
    have h1 := h a List.mem_cons_self
    have h2 := sum_le (l := l) fun b hb => h b (List.mem_cons_of_mem _ hb)
    rw [List.map_cons, List.sum_cons, List.length_cons, Nat.mul_add]
    omega
theorem names_len {l : List (Str × Str)} (ok : PlayersOk l) : (Txt.join ", " (l.map showName)).length ≤ 400 := by
  have h1 := join_len ", " (l.map showName)
  have e : ((", " : Str)).length = 2 := rfl
  rw [e, List.length_map, List.map_map] at h1
  have h2 : (l.map ((fun x : Str => x.length) ∘ showName)).sum ≤ 44 * l.length := sum_le fun p hp => showName_len (ok.each p hp)
  have := ok.hi
  omega
theorem th_ok {i : Nat} {th : Th} (ok : th.ok i) : (∃ s, th = .code s ∧ i = 0 ∧ CodeOk s) ∨ (∃ t x, th = .name t x ∧ i = 1 ∧ NameOk (t, x)) ∨ (∃ l, th = .players l ∧ i = 2 ∧ PlayersOk l) ∨ (∃ y m d, th = .day y m d ∧ i = 3 ∧ DayOk y m d) ∨ (∃ n, th = .len n ∧ i = 4 ∧ 0 ≤ n ∧ n ≤ 359999) := by
  cases th <;> rcases i with _ | _ | _ | _ | _ | i <;> simp [Th.ok] at ok
  · exact .inl ⟨_, rfl, rfl, ok⟩
  · exact .inr (.inl ⟨_, _, rfl, rfl, ok⟩)
  · exact .inr (.inr (.inl ⟨_, rfl, rfl, ok⟩))
  · exact .inr (.inr (.inr (.inl ⟨_, _, _, rfl, rfl, ok⟩)))
  · exact .inr (.inr (.inr (.inr ⟨_, rfl, rfl, ok⟩)))
theorem showTh_len {i : Nat} {th : Th} (ok : th.ok i) : (showTh th).length ≤ 410 := by
  have e1 : (("code " : Str)).length = 5 := rfl
  have e2 : (("title " : Str)).length = 6 := rfl
  have e3 : (("by " : Str)).length = 3 := rfl
  have e4 : (("day " : Str)).length = 4 := rfl
  have e5 : (("long " : Str)).length = 5 := rfl
  rcases th_ok ok with ⟨s, rfl, _, q⟩ | ⟨t, x, rfl, _, q⟩ | ⟨l, rfl, _, q⟩ | ⟨y, m, d, rfl, _, q⟩ | ⟨n, rfl, _, q1, q2⟩
  · have := q.hi
    show (("code " : Str) ++ s).length ≤ 410
    rw [strLen_append]; omega
  · have := showName_len q
    show (("title " : Str) ++ showName (t, x)).length ≤ 410
    rw [strLen_append]; omega
  · have := names_len q
    show (("by " : Str) ++ Txt.join ", " (l.map showName)).length ≤ 410
    rw [strLen_append]; omega
  · have := dayStr_len q
    show (("day " : Str) ++ dayStr y m d).length ≤ 410
    rw [strLen_append]; omega
  · have := lenStr_len q1 q2
    show (("long " : Str) ++ lenStr n).length ≤ 410
    rw [strLen_append]; omega
end TW
set_option Elab.async false
set_option linter.all false
set_option maxRecDepth 100000
set_option maxHeartbeats 4000000
namespace TW
open PySem PySem.Spec PyProof.Rows L2
/-! ### rules with the written part named: within a comprehension's block -/
section
variable {X : Cx} (K : PySem.W.Frag)
theorem kFld {e : Expr} {f : Str} {pos : Pos} {ta : TE} (he : PE X e ta) (hb : attributeBase e f X.env (eval e X.env) = eval e X.env) (hK : X.K = K := by rfl) : PE X (.Attribute e f pos) (tFld K ta f) := by subst hK; exact pe_fld he hb
theorem kIxT (hK : X.K = K := by rfl) : IxR X (rIxT K) := by subst hK; exact ix_tup
theorem kIxL (hK : X.K = K := by rfl) : IxR X (rIxL K) := by subst hK; exact ix_list
theorem kSlT (hK : X.K = K := by rfl) : SlR X (rSlT K) := by subst hK; exact sl_tup
theorem kSlL (hK : X.K = K := by rfl) : SlR X (rSlL K) := by subst hK; exact sl_list
theorem kIsi (hK : X.K = K := by rfl) : CallR X (.builtin "isinstance") (rIsi K) := by subst hK; exact call_isi
def rLenA : List V → Hp → VK → Prop := fun xs H Q => ∃ x n, xs = [x] ∧ LenV K x H n ∧ Q (.int n) H
theorem kLen (hK : X.K = K := by rfl) : CallR X (.builtin "len") (rLenA K) := by subst hK; exact call_len
def rTupleOf : List V → Hp → VK → Prop := fun xs H Q => ∃ p ys, xs = [.ref p] ∧ ((SqL K H p ys ∧ ∀ l, H l = none → Q (.ref l) (upd H l (.tup ys))) ∨ (SqT K H p ys ∧ Q (.ref p) H))
theorem kTupleOf (hK : X.K = K := by rfl) : CallR X (.type "tuple") (rTupleOf K) := by subst hK; exact call_tuple_of
theorem kCatA (hK : X.K = K := by rfl) : OpR X (binaryOp .Add) (rCatA K) := by subst hK; exact op_catA
theorem kCatL (hK : X.K = K := by rfl) {r : PySem.W.Frag → R2} (h : OpR X (binaryOp .Add) (r X.K)) : OpR X (binaryOp .Add) (r K) := by subst hK; exact h
theorem kTup {es : List Expr} {k : Nat} {pos : Pos} {t : TGs} {n : Nat} (hc : X.calm = true) (h : PGs X es t)
    (hn : (assignEach es X.env).length = n := by rfl) (hst : (assignEach es X.env).findIdx? (·.1) = none := by rfl) (hK : X.K = K := by rfl) : PG X (.Tuple es k pos) (gTup K n t) := by subst hK; exact pg_tup hc h hn hst
theorem kList {tg l : Expr} {tl : TE} (hl : PE X l tl) (hK : X.K = K := by rfl) : PI X tg l (iList K tl) := by subst hK; exact pi_list hl
theorem kTupI {tg l : Expr} {tl : TE} (hl : PE X l tl) (hK : X.K = K := by rfl) : PI X tg l (iTup K tl) := by subst hK; exact pi_tup hl
theorem kBm {o e : Expr} {es : List Expr} {name : Str} {apos cpos : Pos} {T id : String} {r : V → List V → Hp → VK → Prop} {to : TE} {t : TA} (pa : PlainAttrs T) (slot : Slot T name id) (hty : typeOf (.builtin id) = pure (.type "method_descriptor")) (hm : MtR X id r) (ho : PE X o to) (ha : PA X (e :: es) t)
    (hbase : attributeBase o name X.env (eval o X.env) = eval o X.env := by rfl)
    (hfew : ((backTo cpos (starEach (e :: es) X.env)).all (fun x => !x.1) && (backToKw cpos (keywordEach [] X.env)).all (fun x => x.1.isSome)
      && decide ((e :: es).length + ([] : List Keyword).length + (if ([] : List Keyword).isEmpty then 0 else 1) < 30)) = true := by rfl)
    (hline : (apos.endLine == cpos.line) = true := by rfl) (hs : starEach (e :: es) X.env = (false, eval e X.env) :: starEach es X.env := by rfl) (hplain : (backTo cpos (starEach es X.env)).any (·.1) = false := by rfl) (hK : X.K = K := by rfl) :
    PE X (.Call (.Attribute o name apos) (e :: es) [] cpos) (tBM K T r to t) := by subst hK; exact pe_bm pa slot hty hm ho ha hbase hfew hline hs hplain
theorem kEqD (hu : X.A.units + 64 < cLine) (hK : X.K = K := by rfl) : OpR X (compareOp .Eq) (rEqD K) := by subst hK; exact op_eqD hu
theorem kNeD (hu : X.A.units + 64 < cLine) (hK : X.K = K := by rfl) : OpR X (compareOp .NotEq) (rNeD K) := by subst hK; exact op_neD hu
theorem kLtD (hu : X.A.units + 64 < cLine) (hK : X.K = K := by rfl) : OpR X (compareOp .Lt) (rLtD K) := by subst hK; exact op_ltD hu
theorem kSortL (hu : X.A.units + 64 < cLine) (hK : X.K = K := by rfl) : CallR X (.builtin "sorted") (rSortL K) := by subst hK; exact cr_sortL hu
end
end TW
set_option Elab.async false
set_option linter.all false
set_option maxRecDepth 100000
set_option maxHeartbeats 4000000
namespace TW
open PySem PySem.Spec PyProof.Rows L2
section
variable {P : Program} {w : World} {K : PySem.W.Frag} {mg : Str → Option Value} {base : Heap}
def sp_Day_str (K : PySem.W.Frag) : Sp := fun vs H Q _ => ∃ a dx y m d, vs = [.ref a] ∧ H a = some (.ins (cDay K) dx (dayFs y m d)) ∧ DayOk y m d ∧ ∀ H', Ext H H' → Q (.str (dayStr y m d)) H'
theorem ok_Day_str (T : Txt K mg) : C8.Met P w K mg base 1 (He.ga K "Day") "__str__" (sp_Day_str K) [] := by
  obtain ⟨fd, F⟩ := T.d_Day_str
  refine met_of T.c_Day T.t_Day_str F (fun _ _ _ _ _ _ us hl => match us, hl with | [_], _ => rfl) sc_Day_str (fun vs H Q E h => ?_) fun cdv A outer s H vs Q E hr h => ?_
  · obtain ⟨a, dx, y, m, d, rfl, ha, ok, hq⟩ := h
    rfl
  · have hu := hu_of hr
    have hu64 := hr.units
    obtain ⟨a, dx, y, m, d, rfl, ha, ok, hq⟩ := h
    refine ⟨_, (pss_cons (ps_setLc (i := 1) (own := [("part", 2)]) (by rfl) sc_Day_str.nd rfl rfl (sw_true rfl rfl rfl (by decide +kernel)) (pi_tup (pe_tup (pa_cons (pe_fld (pv 0) rfl) (pa_cons (pe_fld (pv 0) rfl) pa_nil)))) (blkOk_by (N := N_Day_str) (sc := defScope s_Day_str) (by decide +kernel)) (fun _ _ _ _ _ => (pg_name (i := 2) sc_Day_str.nd rfl (by first | exact Or.inl rfl | exact Or.inr rfl))) (fun _ _ _ _ _ => by exact (pts_one (pt_cmpR op_notN (pv 2) pe_non (nomark _)))) (fun _ _ _ _ _ => by exact (kBm K PySem.F.plainAttrs_str PySem.F.slot_str_zfill PySem.F.type_str_zfill mt_zfill (pe_callTy call_str_int (by rfl) T.f_str (by decide +kernel) (pa_cons (pv 2) pa_nil)) (pa_cons pe_int pa_nil))))
    (pss_one (ps_ret (pe_join pe_str (pe_op op_cat (pe_lst (pa_cons (pe_bm PySem.F.plainAttrs_str PySem.F.slot_str_zfill PySem.F.type_str_zfill mt_zfill (pe_callTy call_str_int (by rfl) T.f_str (by decide +kernel) (pa_cons (pe_fld (pv 0) rfl) pa_nil)) (pa_cons pe_int pa_nil)) pa_nil)) (pv 1)))))), ?_⟩
    refine ⟨_, rfl, a, _, dx, _, _, rfl, ha, T.c_Day, T.n_Day_month, rfl, ?_⟩
    refine ⟨_, rfl, a, _, dx, _, _, rfl, ha, T.c_Day, T.n_Day_day, rfl, ?_⟩
    refine ⟨by show 2 ≤ sizeLine; decide, fun t ht => ⟨t, rfl, ⟨_, SqT.of upd_same⟩, fun D hD => ?_⟩⟩
    have e1 : Ext H (upd H t (.tup [oi m, oi d])) := Ext.upd ht
    have lg : ∀ i : Int, (m = some i ∨ d = some i) → i.natAbs.log2 < 1920 := fun i h => log2_lt (k := 10) (by
      rcases h with h | h
      · have := ok.mr i h; omega
      · have := ok.dr i h; omega) (by decide)
    refine lc_src (src_tup (xs := [oi m, oi d])) (fun i H' => Ext (upd H t (.tup [oi m, oi d])) H' ∧ H' D = some (.lst (((([m, d].take i).filterMap id).map fun i => Txt.zfill (dec i) 2).map V.str))) ⟨Ext.upd hD, upd_same⟩ (fun i H' _ h => SqT.of (h.1 _ _ upd_same)) (fun i x H1 H2 hi p hy => ?_) fun H1 p => ?_
    · obtain ⟨rfl, hx⟩ := hy
      obtain ⟨o, ho, rfl⟩ : ∃ o, [m, d][i]? = some o ∧ x = oi o := by
        rcases i with _ | _ | i
        · exact ⟨m, rfl, by simpa using hx.symm⟩
        · exact ⟨d, rfl, by simpa using hx.symm⟩
        · exact absurd hi (by show ¬ i + 1 + 1 < 2; omega)
      have hmem : ∀ j, o = some j → (m = some j ∨ d = some j) := fun j e => by
        rcases i with _ | _ | i
        · exact .inl (by simpa [e] using ho)
        · exact .inr (by simpa [e] using ho)
        · simp at ho
      have tk : ([m, d].take (i + 1)).filterMap id = ([m, d].take i).filterMap id ++ o.toList := by
        rw [List.take_add_one, ho, List.filterMap_append]
        cases o <;> rfl
      refine ⟨rfl, _, rfl, rfl, _, rfl, ?_⟩
      cases o with
      | none =>
        refine if_ndecF rfl ⟨p.1, ?_⟩
        rw [tk]
        simpa using p.2
      | some j =>
        refine if_ndecT (fun z => nomatch z) ⟨_, rfl, j, rfl, lg j (hmem j rfl), rfl, _, _, rfl, rfl, rfl, _, p.2, ?_, Ext.mut p.1 hD, ?_⟩
        · rw [List.length_map, List.length_map]
          refine Nat.lt_of_le_of_lt (List.length_filterMap_le _ _) (Nat.lt_of_le_of_lt (List.length_take_le _ _) (by show i < _; exact Nat.lt_trans hi (by show 2 < sizeLine; decide)))
        · rw [upd_same, tk]
          simp [dec]
    · obtain ⟨eH, hD1⟩ := p
      have ha1 := (e1.trans eH) _ _ ha
      have hle := day_sum ok
      have pe : (([m, d].take [oi m, oi d].length).filterMap id).map (fun i => Txt.zfill (dec i) 2) = dayParts m d := by cases m <;> cases d <;> rfl
      rw [pe] at hD1
      refine ⟨⟨_, rfl⟩, _, rfl, a, _, dx, _, _, rfl, ha1, T.c_Day, T.n_Day_year, rfl, y, rfl, log2_lt (k := 20) (by have := ok.ylo; have := ok.yhi; omega) (by decide), rfl, _, _, rfl, rfl, rfl, ?_⟩
      refine ⟨by show 1 ≤ sizeLine; decide, fun l hl => ⟨_, rfl, l, D, _, _, rfl, rfl, upd_same, Ext.upd hl _ _ hD1, ?_, fun q hq' => ?_⟩⟩
      · have : (dayParts m d).length ≤ 2 := by unfold dayParts; cases m <;> cases d <;> simp
        rw [List.length_map]
        exact Nat.le_trans (show 1 + (dayParts m d).length ≤ 3 by omega) (by show 3 ≤ sizeLine; decide)
      · refine ⟨_, q, Txt.zfill (dec y) 4 :: dayParts m d, rfl, rfl, .inl (SqL.of (by rw [upd_same]; rfl)), ?_, ?_⟩
        · exact Nat.le_trans hle (by decide)
        · exact hq _ ((e1.trans eH).trans ((Ext.upd hl).trans (Ext.upd hq')))
def sp_Length_str (K : PySem.W.Frag) : Sp := fun vs H Q _ => ∃ a dx n, vs = [.ref a] ∧ H a = some (.ins (cLength K) dx [("seconds", .int n)]) ∧ 0 ≤ n ∧ n ≤ 359999 ∧ ∀ H', Ext H H' → Q (.str (lenStr n)) H'
theorem ok_Length_str (T : Txt K mg) : C8.Met P w K mg base 1 (He.ga K "Length") "__str__" (sp_Length_str K) [] := by
  obtain ⟨fd, F⟩ := T.d_Length_str
  obtain ⟨t_MINUTE, k_MINUTE⟩ := T.k_MINUTE
  refine met_of T.c_Length T.t_Length_str F (fun _ _ _ _ _ _ us hl => match us, hl with | [_], _ => rfl) sc_Length_str (fun vs H Q E h => ?_) fun cdv A outer s H vs Q E hr h => ?_
  · obtain ⟨a, dx, n, rfl, ha, h0, h1, hq⟩ := h
    rfl
  · have hu := hu_of hr
    have hu64 := hr.units
    obtain ⟨a, dx, n, rfl, ha, h0, h1, hq⟩ := h
    refine ⟨_, (pss_cons (ps_asg (pe_callB call_divmod (by rfl) T.f_divmod (by decide +kernel) (pa_cons (pe_fld (pv 0) rfl) (pa_cons (pe_glob (v := .int 60) rfl k_MINUTE ⟨_, rfl⟩) pa_nil))) (pg_tup (by rfl) (pgs_cons (pg_name (i := 2) sc_Length_str.nd rfl (by first | exact Or.inl rfl | exact Or.inr rfl)) (pgs_cons (pg_name (i := 3) sc_Length_str.nd rfl (by first | exact Or.inl rfl | exact Or.inr rfl)) pgs_nil))))
    (pss_cons (ps_set (i := 1) sc_Length_str.nd rfl (by first | exact Or.inl rfl | exact Or.inr rfl) (pe_bm PySem.F.plainAttrs_str PySem.F.slot_str_zfill PySem.F.type_str_zfill mt_zfill (pe_callTy call_str_int (by rfl) T.f_str (by decide +kernel) (pa_cons (pv 3) pa_nil)) (pa_cons pe_int pa_nil)))
    (pss_one (ps_ret (pe_joined (.cons (pe_fmt (pv 2)) (.cons pe_str (.cons (pe_fmt (pv 1)) .nil)))))))), ?_⟩
    have hl := lenStr_len h0 h1
    unfold lenStr dec at hl
    rw [strLen_append, strLen_append, strLen_append] at hl
    refine ⟨_, rfl, a, _, dx, _, _, rfl, ha, T.c_Length, T.n_Length_seconds, rfl, _, _, rfl, ⟨by decide, by decide⟩, fun p hp => ?_⟩
    refine ⟨p, _, rfl, SqT.of upd_same, rfl, _, _, rfl, _, _, rfl, rfl, ?_⟩
    refine ⟨_, rfl, n % 60, rfl, log2_lt (k := 10) (by omega) (by decide), rfl, _, _, rfl, rfl, rfl, ?_⟩
    refine ⟨_, rfl, .inr ⟨n / 60, rfl, log2_lt (k := 20) (by omega) (by decide), ?_⟩⟩
    refine ⟨_, rfl, ?_, ?_⟩
    · rw [strLen_append]; show _ ≤ 16777216; have := hl; omega
    refine ⟨_, rfl, ?_, ?_⟩
    · rw [strLen_append, strLen_append]; show _ ≤ 16777216; have := hl; omega
    refine ⟨_, rfl, .inl ⟨_, rfl, ?_, ?_⟩⟩
    · show _ ≤ 16777216; have := hl; omega
    refine ⟨_, rfl, ?_, ?_⟩
    · rw [strLen_append, strLen_append, strLen_append]; show _ ≤ 16777216; have := hl; omega
    exact hq _ (Ext.upd hp)
end
end TW
set_option Elab.async false
set_option linter.all false
set_option maxRecDepth 100000
set_option maxHeartbeats 4000000
namespace TW
open PySem PySem.Spec PyProof.Rows L2
section
variable {P : Program} {w : World} {K : PySem.W.Frag} {mg : Str → Option Value} {base : Heap}

def FLD : List Str := ["code", "title", "players", "day", "length"]
theorem alike_name (p q : Str × Str) : PySem.W.alike (nmark p) (nmark q) = true := by simp [nmark, PySem.W.alike, PySem.W.alikeAll]
theorem dp_name {H : Hp} {v : V} {p : Str × Str} (h : NameAt H v p) : Dp K H v (nmark p) := by
  obtain ⟨a, rfl, ha⟩ := h
  exact .tup (SqT.of ha) (.cons (.str _) (.cons (.str _) .nil))
theorem prd_get {α β : Type} {R : α → β → Prop} : ∀ {xs : List α} {ys : List β} {i : Nat} {x : α}, Paired R xs ys → xs[i]? = some x → ∃ y, ys[i]? = some y ∧ R x y
  | _, _, i, x, .nil, h => by simp at h
  | p :: _, q :: _, 0, x, .cons a t, h => by
    have e : p = x := by simpa using h
    exact ⟨q, rfl, e ▸ a⟩
  | _ :: _, _ :: _, i + 1, x, .cons a t, h => by
    obtain ⟨y, h1, h2⟩ := prd_get (i := i) t (by simpa using h)
    exact ⟨y, by simpa using h1, h2⟩
theorem cut_one (xs : List V) (h : 1 ≤ xs.length) : cutV xs (some 1) none = xs.drop 1 := by
  unfold cutV
  have e : HT.sIx xs.length 0 (some 1) = 1 := by
    have := HT.sIx_nat xs.length 0 1
    rw [show ((1 : Nat) : Int) = 1 from rfl] at this
    rw [this]; omega
  rw [e, HT.sIx_none, List.take_of_length_le (by rw [List.length_drop]; omega)]
theorem cut_part (xs : List V) (h : 1 ≤ xs.length) : ¬ (HT.sIx xs.length 0 (some 1) = 0 ∧ HT.sIx xs.length xs.length none = xs.length) := by
  have := HT.sIx_nat xs.length 0 1
  rw [show ((1 : Nat) : Int) = 1 from rfl] at this
  rw [this]
  omega
def sp_are_players (K : PySem.W.Frag) : Sp := fun vs H Q _ => ∃ v l, vs = [v] ∧ ThAt K H v (.players l) ∧ PlayersOk l ∧ ∀ H', Ext H H' → Q (.bl true) H'
theorem ok_are_players (T : Txt K mg) : C8.Cal P w K mg base 3 "are_players" (sp_are_players K) [] := by
  obtain ⟨fd, F⟩ := T.d_are_players
  obtain ⟨t_MOST_PLAYERS, k_MOST_PLAYERS⟩ := T.k_MOST_PLAYERS
  refine cal_of F T.g_are_players (fun _ _ _ _ _ _ us hl => match us, hl with | [_], _ => rfl) sc_are_players (fun vs H Q E h => ?_) fun cdv A outer s H vs Q E hr h => ?_
  · obtain ⟨v, l, rfl, ⟨a, ws, rfl, ha, hp⟩, ok, hq⟩ := h
    rfl
  · have hu := hu_of hr
    have hu64 := hr.units
    obtain ⟨v, l, rfl, ⟨a, ws, rfl, ha, hp⟩, ok, hq⟩ := h
    refine ⟨_, (pss_cons (ps_if (PW.pt (pw_or (pt_not (pt_val (pe_callB call_isi (by rfl) T.f_isinstance (by decide +kernel) (pa_cons (pv 0) (pa_cons (pe_bltn (v := .ty "tuple") (u := .type "tuple") (by rfl) T.f_tuple (by decide +kernel) rfl) pa_nil))))) (pw_or1 (pt_not (pt_chain op_le op_le pe_int (pe_callB call_len (by rfl) T.f_len (by decide +kernel) (pa_cons (pv 0) pa_nil)) (pe_glob (v := .int 8) rfl k_MOST_PLAYERS ⟨_, rfl⟩)))))) (pss_one (ps_ret pe_bl)) pss_nil)
    (pss_cons (ps_if (pt_not (pt_val (pe_callB (cr_all rfl) (by rfl) T.f_all (by decide +kernel) (pa_cons (pe_lc (own := [("name", 1)]) (by rfl) sc_are_players.nd (pi_tup (pv 0)) (blkOk_by (N := N_are_players) (sc := defScope s_are_players) (by decide +kernel)) (fun _ _ _ _ _ => (pg_name (i := 1) sc_are_players.nd rfl (by first | exact Or.inl rfl | exact Or.inr rfl))) (fun _ _ _ _ _ => by exact pts_nil) (fun _ _ _ _ _ => by exact (C8.pe_c (ok_is_name T) hr (by decide) rfl (pa_cons (pv 1) pa_nil)))) pa_nil)))) (pss_one (ps_ret pe_bl)) pss_nil)
    (pss_one (ps_ret (pe_callB (cr_all rfl) (by rfl) T.f_all (by decide +kernel) (pa_cons (pe_lc (own := [("one", 2), ("other", 3)]) (by rfl) sc_are_players.nd (RZ.pi_zipA (by rfl) T.f_zip (pa_cons (pv 0) (pa_cons (pe_slice sl_tup (pv 0) (po_some pe_int) po_none) pa_nil))) (blkOk_by (N := N_are_players) (sc := defScope s_are_players) (by decide +kernel)) (fun _ _ _ _ _ => (kTup K (n := 2) (by rfl) (pgs_cons (pg_name (i := 2) sc_are_players.nd rfl (by first | exact Or.inl rfl | exact Or.inr rfl)) (pgs_cons (pg_name (i := 3) sc_are_players.nd rfl (by first | exact Or.inl rfl | exact Or.inr rfl)) pgs_nil)))) (fun _ _ _ _ _ => by exact pts_nil) (fun _ _ _ _ _ => by exact (pe_cmpR (kLtD K hu64) (pv 2) (pv 3) (nomark _)))) pa_nil)))))), ?_⟩
    have hlen := prd_len hp
    have hsz : ws.length ≤ sizeLine := by rw [hlen]; exact Nat.le_trans ok.hi (by decide)
    refine ⟨_, rfl, ⟨_, _, _, _, _, rfl, .ty "tuple", .base (.tup ha), T.kit 3 rfl, true, rfl, iteF ?_⟩⟩
    refine ⟨_, rfl, _, _, rfl, .inr ⟨_, SqT.of ha, rfl⟩, _, _, rfl, rfl, _, rfl, if_decT (by have := ok.lo; omega) ⟨_, _, rfl, rfl, _, rfl, if_ndecF (by have := ok.hi; omega) ?_⟩⟩
    refine ⟨_, rfl, a, rfl, ⟨_, SqT.of ha⟩, fun D hD => ?_⟩
    refine all_src (K := K) (src_tup (xs := ws)) hD hsz (fun H' e => SqT.of (e _ _ ha)) (fun i x H1 H2 hi e hy Q' q => ?_) fun H1 bs e1 hb hall => ⟨D, bs, rfl, hb, ?_⟩
    · obtain ⟨rfl, hx⟩ := hy
      obtain ⟨p, h1, h2⟩ := prd_get hp hx
      exact ⟨rfl, _, rfl, x, p, rfl, h2.imm (Imm.of e), ok.each p (List.mem_of_getElem? h1), q⟩
    rw [hall]
    refine ⟨true, rfl, iteF ?_⟩
    refine ⟨_, rfl, _, rfl, 1, rfl, a, ws, rfl, SqT.of (e1 _ _ ha), cut_part ws (by rw [hlen]; exact ok.lo), fun b hb => ?_⟩
    rw [cut_one ws (by rw [hlen]; exact ok.lo)]
    have e2 : Ext H (upd H1 b (.tup (ws.drop 1))) := e1.trans (Ext.upd hb)
    refine ⟨a, b, ws, ws.drop 1, rfl, .inr ⟨SqT.of (e2 _ _ ha), SqT.of upd_same, fun D' hD' => ?_⟩⟩
    refine all_src (K := K) (src := src_zipT (n := ws.length - 1) (xs := ws) (ys := ws.drop 1) (by omega) (by rw [List.length_drop]; exact Nat.le_refl _) (.inr (by rw [List.length_drop]))) hD' (by omega) (fun H' e => ⟨SqT.of (e _ _ (e2 _ _ ha)), SqT.of (e _ _ upd_same)⟩) (fun i x H2 H3 hi e hy Q' q => ?_) fun H2 bs e3 hb hall => ⟨D', bs, rfl, hb, by rw [hall]; exact hq _ (e2.trans e3)⟩
    obtain ⟨t, x1, x2, rfl, ht, rfl, h1, h2⟩ := hy
    obtain ⟨p1, g1, n1⟩ := prd_get hp h1
    rw [List.getElem?_drop, Nat.add_comm] at h2
    obtain ⟨p2, g2, n2⟩ := prd_get hp h2
    have e4 := (e2.trans e).trans (Ext.upd ht (o := .tup [x1, x2]))
    refine ⟨t, _, rfl, SqT.of upd_same, rfl, _, _, rfl, _, _, rfl, rfl, rfl, _, rfl, _, rfl, nmark p1, nmark p2, dp_name (n1.imm (Imm.of e4)), dp_name (n2.imm (Imm.of e4)), alike_name _ _, (fun z => nomatch z), (show 1 ≤ 40 by decide), ?_⟩
    rw [ok.rise i p1 p2 g1 g2]
    exact q _ (Ext.upd ht)
def sp_key_of (K : PySem.W.Frag) : Sp := fun vs H Q _ => ∃ v e, vs = [v] ∧ EntAt K H v e ∧ e.th.length = 5 ∧ ∀ p, H p = none → Q (.ref p) (upd H p (.tup (kvals e.key)))
theorem ok_key_of (T : Txt K mg) : C8.Cal P w K mg base 1 "key_of" (sp_key_of K) [] := by
  obtain ⟨fd, F⟩ := T.d_key_of
  refine cal_of F T.g_key_of (fun _ _ _ _ _ _ us hl => match us, hl with | [_], _ => rfl) sc_key_of (fun vs H Q E h => ?_) fun cdv A outer s H vs Q E hr h => ?_
  · obtain ⟨v, e, rfl, ⟨a, ws, rfl, ha, hp⟩, h5, hq⟩ := h
    rfl
  · have hu := hu_of hr
    have hu64 := hr.units
    obtain ⟨v, e, rfl, ⟨a, ws, rfl, ha, hp⟩, h5, hq⟩ := h
    refine ⟨_, (pss_one (ps_ret (pe_slice sl_tup (pv 0) po_none (po_some pe_int)))), ?_⟩
    obtain ⟨w0, w1, w2, w3, w4, rfl⟩ := five_of ((prd_len hp).trans h5)
    exact ⟨_, rfl, 2, rfl, a, _, rfl, SqT.of ha, (by show ¬ ((0 : Nat) = 0 ∧ 2 = 7); decide), fun p hp' => hq p hp'⟩
def sp_field_of (K : PySem.W.Frag) : Sp := fun vs H Q _ => ∃ a xs i f, vs = [.ref a, .str f] ∧ H a = some (.tup xs) ∧ FLD[i]? = some f ∧ ∃ v, xs[2 + i]? = some v ∧ Q v H
theorem ok_field_of (T : Txt K mg) : C8.Cal P w K mg base 1 "field_of" (sp_field_of K) [] := by
  obtain ⟨fd, F⟩ := T.d_field_of
  refine cal_of F T.g_field_of (fun _ _ _ _ _ _ us hl => match us, hl with | [_, _], _ => rfl) sc_field_of (fun vs H Q E h => ?_) fun cdv A outer s H vs Q E hr h => ?_
  · obtain ⟨a, xs, i, f, rfl, ha, hf, v, hv, hq⟩ := h
    rfl
  · have hu := hu_of hr
    have hu64 := hr.units
    obtain ⟨a, xs, i, f, rfl, ha, hf, v, hv, hq⟩ := h
    refine ⟨_, (pss_one (ps_ret (pe_ix ix_tup (pv 0) (pe_op op_add pe_int (pe_bm PySem.F.plainAttrs_tuple PySem.F.slot_tuple_index PySem.F.type_tuple_index mt_tup_index (pe_glob (v := .ref (He.ga K "FIELDS")) rfl T.g_FIELDS rfl) (pa_cons (pv 1) pa_nil))) (fun _ _ => rfl)))), ?_⟩
    obtain ⟨o, ho, hc, hd⟩ := T.fieldsD
    have hi : i < 5 := (List.getElem?_eq_some_iff.mp hf).1
    refine ⟨_, rfl, .inr (.inl ⟨rfl, o, ho, hc, hd⟩), _, rfl, _, FLD, f, i, rfl, rfl, T.fields H, hf, fun m hm e => ?_, _, _, rfl, rfl, _, _, _, _, rfl, rfl, SqT.of ha, ?_, hq⟩
    · have : m = i := by
        rcases i with _ | _ | _ | _ | _ | i <;> rcases m with _ | _ | _ | _ | _ | m <;> first | omega | (simp [FLD] at hf e; rw [← hf] at e; exact absurd e (by decide))
      omega
    · rw [show ((2 : Int) + (i : Int)) = ((2 + i : Nat) : Int) by omega]
      exact atI_nat hv
def sp_show_name (K : PySem.W.Frag) : Sp := fun vs H Q _ => ∃ v p, vs = [v] ∧ NameAt H v p ∧ NameOk p ∧ Q (.str (showName p)) H
theorem ok_show_name (T : Txt K mg) : C8.Cal P w K mg base 1 "show_name" (sp_show_name K) [] := by
  obtain ⟨fd, F⟩ := T.d_show_name
  refine cal_of F T.g_show_name (fun _ _ _ _ _ _ us hl => match us, hl with | [_], _ => rfl) sc_show_name (fun vs H Q E h => ?_) fun cdv A outer s H vs Q E hr h => ?_
  · obtain ⟨v, p, rfl, ⟨a, rfl, ha⟩, ok, hq⟩ := h
    rfl
  · have hu := hu_of hr
    have hu64 := hr.units
    obtain ⟨v, p, rfl, ⟨a, rfl, ha⟩, ok, hq⟩ := h
    refine ⟨_, (pss_cons (ps_asg (pv 0) (pg_tup (by rfl) (pgs_cons (pg_name (i := 1) sc_show_name.nd rfl (by first | exact Or.inl rfl | exact Or.inr rfl)) (pgs_cons (pg_name (i := 2) sc_show_name.nd rfl (by first | exact Or.inl rfl | exact Or.inr rfl)) pgs_nil))))
    (pss_one (ps_ret (pe_joined (.cons (pe_fmt (pv 1)) (.cons pe_str (.cons (pe_fmt (pv 2)) .nil))))))), ?_⟩
    have hl := showName_len ok
    unfold showName at hl
    rw [strLen_append, strLen_append, strLen_append] at hl
    refine ⟨_, rfl, a, _, rfl, SqT.of ha, rfl, _, _, rfl, _, _, rfl, rfl, ?_⟩
    refine ⟨_, rfl, .inl ⟨_, rfl, (by show _ ≤ 16777216; omega), p.1, rfl, (by rw [strLen_append]; show _ ≤ 16777216; omega), _, rfl, (by rw [strLen_append, strLen_append]; show _ ≤ 16777216; omega), _, rfl, .inl ⟨_, rfl, (by show _ ≤ 16777216; omega), p.2, rfl, (by rw [strLen_append, strLen_append, strLen_append]; show _ ≤ 16777216; omega), hq⟩⟩⟩
def sp_show_key (K : PySem.W.Frag) : Sp := fun vs H Q _ => ∃ v k, vs = [v] ∧ KeyAt H v k ∧ KeyOk k ∧ Q (.str (showKey k)) H
theorem ok_show_key (T : Txt K mg) : C8.Cal P w K mg base 1 "show_key" (sp_show_key K) [] := by
  obtain ⟨fd, F⟩ := T.d_show_key
  refine cal_of F T.g_show_key (fun _ _ _ _ _ _ us hl => match us, hl with | [_], _ => rfl) sc_show_key (fun vs H Q E h => ?_) fun cdv A outer s H vs Q E hr h => ?_
  · obtain ⟨v, k, rfl, ⟨a, rfl, ha⟩, ok, hq⟩ := h
    rfl
  · have hu := hu_of hr
    have hu64 := hr.units
    obtain ⟨v, k, rfl, ⟨a, rfl, ha⟩, ok, hq⟩ := h
    refine ⟨_, (pss_cons (ps_asg (pv 0) (pg_tup (by rfl) (pgs_cons (pg_name (i := 1) sc_show_key.nd rfl (by first | exact Or.inl rfl | exact Or.inr rfl)) (pgs_cons (pg_name (i := 2) sc_show_key.nd rfl (by first | exact Or.inl rfl | exact Or.inr rfl)) pgs_nil))))
    (pss_one (ps_ret (pe_joined (.cons (pe_fmt (pv 1)) (.cons pe_str (.cons (pe_fmt (pv 2)) .nil))))))), ?_⟩
    have hl := showKey_len ok
    unfold showKey dec at hl
    rw [strLen_append, strLen_append, strLen_append] at hl
    refine ⟨_, rfl, a, _, rfl, SqT.of ha, rfl, _, _, rfl, _, _, rfl, rfl, ?_⟩
    refine ⟨_, rfl, .inl ⟨_, rfl, (by show _ ≤ 16777216; omega), k.1, rfl, (by rw [strLen_append]; show _ ≤ 16777216; omega), _, rfl, (by rw [strLen_append, strLen_append]; show _ ≤ 16777216; omega), _, rfl, .inr ⟨k.2, rfl, log2_lt (k := 200) (by have := ok.lo; have := ok.hi; omega) (by decide), _, rfl, (by rw [strLen_append, strLen_append, strLen_append]; show _ ≤ 16777216; omega), hq⟩⟩⟩
end
end TW
set_option Elab.async false
set_option linter.all false
set_option maxRecDepth 100000
set_option maxHeartbeats 4000000
namespace TW
open PySem PySem.Spec PyProof.Rows L2
section
variable {P : Program} {w : World} {K : PySem.W.Frag} {mg : Str → Option Value} {base : Heap}

/-- x is not None and not valid(x): not so -/
theorem opt_ok {tc : TE} {σ : L2.St} {H : Hp} {i : Nat} {v : V} {Q : Bool → Hp → Prop} (hv : σ[i]? = some (some v)) (h : v = .non ∨ (v ≠ .non ∧ ∀ Q' : VK, (∀ H', Ext H H' → Q' (.bl true) H') → tc σ H Q')) (q : ∀ H', Ext H H' → Q false H') :
    tAnd (tTest (tOp (fun x y H Q => y = .non ∧ Q (.bl (!decide (x = .non))) H) (tVar i) (tC .non))) (tNot (tB tc)) σ H Q := by
  refine ⟨v, hv, rfl, _, rfl, ?_⟩
  rcases h with h | ⟨h, hc⟩
  · exact if_ndecF h (q H Ext.rfl')
  · exact if_ndecT h (hc _ fun H' e => ⟨true, rfl, q H' e⟩)
theorem fld_inj {i j : Nat} {f : Str} (h1 : FLD[i]? = some f) (h2 : FLD[j]? = some f) : i = j := by
  have key : ∀ a b : Fin 5, FLD[a.val]? = FLD[b.val]? → a = b := by decide
  exact congrArg Fin.val (key ⟨i, (List.getElem?_eq_some_iff.mp h1).1⟩ ⟨j, (List.getElem?_eq_some_iff.mp h2).1⟩ (h1.trans h2.symm))
theorem oth_cases {H : Hp} {v : V} {o : Option Th} (h : OThAt K H v o) : (v = .non ∧ o = none) ∨ ∃ th, o = some th ∧ ThAt K H v th ∧ v ≠ .non := by
  cases o with
  | none => exact .inl ⟨h, rfl⟩
  | some th =>
    refine .inr ⟨th, rfl, h, ?_⟩
    cases th with
    | code s => rw [show v = .str s from h]; exact fun z => nomatch z
    | name t x => obtain ⟨a, e, _⟩ := h; rw [e]; exact fun z => nomatch z
    | players l => obtain ⟨a, _, e, _⟩ := h; rw [e]; exact fun z => nomatch z
    | day y m d => obtain ⟨a, _, e, _⟩ := h; rw [e]; exact fun z => nomatch z
    | len n => obtain ⟨a, _, e, _⟩ := h; rw [e]; exact fun z => nomatch z
theorem prd5 {α β : Type} {R : α → β → Prop} {a b c d e : α} {ys : List β} (h : Paired R [a, b, c, d, e] ys) : ∃ a' b' c' d' e', ys = [a', b', c', d', e'] ∧ R a a' ∧ R b b' ∧ R c c' ∧ R d d' ∧ R e e' := by
  cases h with
  | cons h1 t => cases t with
    | cons h2 t => cases t with
      | cons h3 t => cases t with
        | cons h4 t => cases t with
          | cons h5 t => cases t; exact ⟨_, _, _, _, _, rfl, h1, h2, h3, h4, h5⟩
theorem dp_names {H : Hp} : ∀ {ws : List V} {l : List (Str × Str)}, Paired (NameAt H) ws l → DpAll K H ws (l.map nmark)
  | _, _, .nil => .nil
  | _, _, .cons a t => .cons (dp_name a) (dp_names t)
def sp_is_entry (K : PySem.W.Frag) : Sp := fun vs H Q _ => ∃ v e, vs = [v] ∧ EntAt K H v e ∧ EntOk e ∧ ∀ H', Ext H H' → Q (.bl true) H'
theorem ok_is_entry (T : Txt K mg) : C8.Cal P w K mg base 4 "is_entry" (sp_is_entry K) [] := by
  obtain ⟨fd, F⟩ := T.d_is_entry
  refine cal_of F T.g_is_entry (fun _ _ _ _ _ _ us hl => match us, hl with | [_], _ => rfl) sc_is_entry (fun vs H Q E h => ?_) fun cdv A outer s H vs Q E hr h => ?_
  · obtain ⟨v, e, rfl, ⟨a, ws, rfl, ha, hp⟩, ok, hq⟩ := h
    rfl
  · have hu := hu_of hr
    have hu64 := hr.units
    obtain ⟨v, e, rfl, ⟨a, ws, rfl, ha, hp⟩, ok, hq⟩ := h
    refine ⟨_, (pss_cons (ps_if (PW.pt (pw_or (pt_not (pt_val (pe_callB call_isi (by rfl) T.f_isinstance (by decide +kernel) (pa_cons (pv 0) (pa_cons (pe_bltn (v := .ty "tuple") (u := .type "tuple") (by rfl) T.f_tuple (by decide +kernel) rfl) pa_nil))))) (pw_or (pt_cmpR op_ne (pe_callB call_len (by rfl) T.f_len (by decide +kernel) (pa_cons (pv 0) pa_nil)) pe_int (nomark _)) (pw_or1 (pt_not (pt_val (C8.pe_c (ok_is_key T) hr (by decide) rfl (pa_cons (pe_slice sl_tup (pv 0) po_none (po_some pe_int)) pa_nil)))))))) (pss_one (ps_ret pe_bl)) pss_nil)
    (pss_cons (ps_asg (pe_slice sl_tup (pv 0) (po_some pe_int) po_none) (pg_tup (by rfl) (pgs_cons (pg_name (i := 1) sc_is_entry.nd rfl (by first | exact Or.inl rfl | exact Or.inr rfl)) (pgs_cons (pg_name (i := 2) sc_is_entry.nd rfl (by first | exact Or.inl rfl | exact Or.inr rfl)) (pgs_cons (pg_name (i := 3) sc_is_entry.nd rfl (by first | exact Or.inl rfl | exact Or.inr rfl)) (pgs_cons (pg_name (i := 4) sc_is_entry.nd rfl (by first | exact Or.inl rfl | exact Or.inr rfl)) (pgs_cons (pg_name (i := 5) sc_is_entry.nd rfl (by first | exact Or.inl rfl | exact Or.inr rfl)) pgs_nil)))))))
    (pss_cons (ps_if (PW.pt (pw_or (PW.pt (pw_and (pt_cmpR op_notN (pv 1) pe_non (nomark _)) (pw_and1 (pt_not (pt_val (C8.pe_c (ok_is_code T) hr (by decide) rfl (pa_cons (pv 1) pa_nil))))))) (pw_or1 (PW.pt (pw_and (pt_cmpR op_notN (pv 2) pe_non (nomark _)) (pw_and1 (pt_not (pt_val (C8.pe_c (ok_is_name T) hr (by decide) rfl (pa_cons (pv 2) pa_nil)))))))))) (pss_one (ps_ret pe_bl)) pss_nil)
    (pss_cons (ps_if (PW.pt (pw_and (pt_cmpR op_notN (pv 3) pe_non (nomark _)) (pw_and1 (pt_not (pt_val (C8.pe_c (ok_are_players T) hr (by decide) rfl (pa_cons (pv 3) pa_nil))))))) (pss_one (ps_ret pe_bl)) pss_nil)
    (pss_one (ps_ret (pe_and (pe_or (pe_cmpR op_isN (pv 4) pe_non (nomark _)) (pe_one (pe_callB call_isi (by rfl) T.f_isinstance (by decide +kernel) (pa_cons (pv 4) (pa_cons (pe_glob (v := .ref (He.ga K "Day")) rfl T.g_Day rfl) pa_nil))))) (pe_one (pe_or (pe_cmpR op_isN (pv 5) pe_non (nomark _)) (pe_one (pe_callB call_isi (by rfl) T.f_isinstance (by decide +kernel) (pa_cons (pv 5) (pa_cons (pe_glob (v := .ref (He.ga K "Length")) rfl T.g_Length rfl) pa_nil))))))))))))), ?_⟩
    obtain ⟨w0, w1, w2, w3, w4, rfl⟩ := five_of ((prd_len hp).trans ok.five)
    obtain ⟨o0, o1, o2, o3, o4, he, h0, h1, h2, h3, h4⟩ := prd5 hp
    refine ⟨_, rfl, ⟨_, _, _, _, _, rfl, .ty "tuple", .base (.tup ha), T.kit 3 rfl, true, rfl, iteF ?_⟩⟩
    refine ⟨_, rfl, _, 7, rfl, .inr ⟨_, SqT.of ha, rfl⟩, rfl, _, rfl, if_ndecF rfl ?_⟩
    refine ⟨_, rfl, 2, rfl, a, _, rfl, SqT.of ha, (by show ¬ ((0 : Nat) = 0 ∧ 2 = 7); decide), fun p hp' => ?_⟩
    refine ⟨_, e.key, rfl, ⟨p, rfl, by rw [upd_same]; rfl⟩, ok.key, fun H1 e1 => ⟨true, rfl, iteF ?_⟩⟩
    have E1 : Ext H H1 := (Ext.upd hp').trans e1
    refine ⟨_, rfl, 2, rfl, a, _, rfl, SqT.of (E1 _ _ ha), (by show ¬ (2 = 0 ∧ 7 = 7); decide), fun r hr => ?_⟩
    refine ⟨r, [w0, w1, w2, w3, w4], rfl, SqT.of (by rw [upd_same]; rfl), rfl, _, _, rfl, _, _, rfl, _, _, rfl, _, _, rfl, _, _, rfl, rfl, ?_⟩
    have E2 : Ext H (upd H1 r (.tup [w0, w1, w2, w3, w4])) := E1.trans (Ext.upd hr)
    have em : ∀ (i : Nat) (th : Th), [o0, o1, o2, o3, o4][i]? = some (some th) → th.ok i := fun i th h => ok.each i th (by rw [he]; exact h)
    refine opt_ok (i := 1) (v := w0) rfl ?_ fun H2 e2 => iteF (opt_ok (i := 2) (v := w1) rfl ?_ fun H3 e3 => iteF (opt_ok (i := 3) (v := w2) rfl ?_ fun H4 e4 => iteF ?_))
    · rcases oth_cases h0 with ⟨h, _⟩ | ⟨th, ho, h, hn⟩
      · exact .inl h
      · refine .inr ⟨hn, fun Q' q => ?_⟩
        rcases th_ok (em 0 th (by rw [← ho]; rfl)) with ⟨s, rfl, _, k⟩ | ⟨t, x, rfl, z, k⟩ | ⟨l, rfl, z, k⟩ | ⟨y, m, d, rfl, z, k⟩ | ⟨n, rfl, z, k⟩
        · exact ⟨_, rfl, s, (by rw [show w0 = V.str s from h]; rfl), k, q⟩
        all_goals cases z
    · rcases oth_cases h1 with ⟨h, _⟩ | ⟨th, ho, h, hn⟩
      · exact .inl h
      · refine .inr ⟨hn, fun Q' q => ?_⟩
        rcases th_ok (em 1 th (by rw [← ho]; rfl)) with ⟨s, rfl, z, k⟩ | ⟨t, x, rfl, _, k⟩ | ⟨l, rfl, z, k⟩ | ⟨y, m, d, rfl, z, k⟩ | ⟨n, rfl, z, k⟩
        · cases z
        · exact ⟨_, rfl, _, (t, x), rfl, NameAt.imm (Imm.of (E2.trans e2)) h, k, q⟩
        all_goals cases z
    · rcases oth_cases h2 with ⟨h, _⟩ | ⟨th, ho, h, hn⟩
      · exact .inl h
      · refine .inr ⟨hn, fun Q' q => ?_⟩
        rcases th_ok (em 2 th (by rw [← ho]; rfl)) with ⟨s, rfl, z, k⟩ | ⟨t, x, rfl, z, k⟩ | ⟨l, rfl, _, k⟩ | ⟨y, m, d, rfl, z, k⟩ | ⟨n, rfl, z, k⟩
        · cases z
        · cases z
        · exact ⟨_, rfl, _, l, rfl, ThAt.imm (Imm.of ((E2.trans e2).trans e3)) h, k, q⟩
        all_goals cases z
    have E4 : Ext H H4 := ((E2.trans e2).trans e3).trans e4
    have fin : ∀ (Q' : VK), Q' (.bl true) H4 → tOrV (tOp (fun x y H Q => y = .non ∧ Q (.bl (decide (x = .non))) H) (tVar 5) (tC .non)) (tCB (rIsi K) (tCons (tVar 5) (tCons (tC (.ref (He.ga K "Length"))) tNil))) ((((((L2.start N_is_entry [.ref a]).set 1 (some w0)).set 2 (some w1)).set 3 (some w2)).set 4 (some w3)).set 5 (some w4)) H4 Q' := fun Q' q => by
      refine ⟨w4, rfl, rfl, _, rfl, ?_⟩
      rcases oth_cases h4 with ⟨h, _⟩ | ⟨th, ho, h, hn⟩
      · exact if_decT h q
      · rcases th_ok (em 4 th (by rw [← ho]; rfl)) with ⟨s, rfl, z, k⟩ | ⟨t, x, rfl, z, k⟩ | ⟨l, rfl, z, k⟩ | ⟨y, m, d, rfl, z, k⟩ | ⟨n, rfl, _, k⟩
        · cases z
        · cases z
        · cases z
        · cases z
        · obtain ⟨b, dx, rfl, hb⟩ := h
          exact if_decF hn ⟨_, rfl, ⟨_, _, _, _, _, rfl, .own _, T.ty_Length (E4 _ _ hb), T.kit 12 rfl, q⟩⟩
    refine ⟨w3, rfl, rfl, _, rfl, ?_⟩
    rcases oth_cases h3 with ⟨h, _⟩ | ⟨th, ho, h, hn⟩
    · exact if_decT h ⟨true, rfl, iteT (fin Q (hq _ E4))⟩
    · rcases th_ok (em 3 th (by rw [← ho]; rfl)) with ⟨s, rfl, z, k⟩ | ⟨t, x, rfl, z, k⟩ | ⟨l, rfl, z, k⟩ | ⟨y, m, d, rfl, _, k⟩ | ⟨n, rfl, z, k⟩
      · cases z
      · cases z
      · cases z
      · obtain ⟨b, dx, rfl, hb⟩ := h
        exact if_decF hn ⟨_, rfl, ⟨_, _, _, _, _, rfl, .own _, T.ty_Day (E4 _ _ hb), T.kit 9 rfl, true, rfl, iteT (fin Q (hq _ E4))⟩⟩
      · cases z
def sp_told_alone (K : PySem.W.Frag) : Sp := fun vs H Q _ => ∃ v k i f x, vs = [v, .str f, x] ∧ KeyAt H v k ∧ FLD[i]? = some f ∧ ∀ p H', Ext H H' → H p = none → H' p = some (.tup (kvals k ++ (List.range 5).map fun j => if j = i then x else V.non)) → Q (.ref p) H'
theorem ok_told_alone (T : Txt K mg) : C8.Cal P w K mg base 2 "told_alone" (sp_told_alone K) [] := by
  obtain ⟨fd, F⟩ := T.d_told_alone
  refine cal_of F T.g_told_alone (fun _ _ _ _ _ _ us hl => match us, hl with | [_, _, _], _ => rfl) sc_told_alone (fun vs H Q E h => ?_) fun cdv A outer s H vs Q E hr h => ?_
  · obtain ⟨v, k, i, f, x, rfl, ⟨a, rfl, ha⟩, hf, hq⟩ := h
    rfl
  · have hu := hu_of hr
    have hu64 := hr.units
    obtain ⟨v, k, i, f, x, rfl, ⟨a, rfl, ha⟩, hf, hq⟩ := h
    refine ⟨_, (pss_one (ps_ret (pe_op op_catA (pv 0) (pe_callTy (kTupleOf K) (by rfl) T.f_tuple (by decide +kernel) (pa_cons (pe_lc (own := [("each", 3)]) (by rfl) sc_told_alone.nd (pi_tup (pe_glob (v := .ref (He.ga K "FIELDS")) rfl T.g_FIELDS rfl)) (blkOk_by (N := N_told_alone) (sc := defScope s_told_alone) (by decide +kernel)) (fun _ _ _ _ _ => (pg_name (i := 3) sc_told_alone.nd rfl (by first | exact Or.inl rfl | exact Or.inr rfl))) (fun _ _ _ _ _ => by exact pts_nil) (fun _ _ _ _ _ => by exact (pe_ifExp (pt_cmpR op_eq (pv 3) (pv 1) (nomark _)) (pv 2) pe_non))) pa_nil))))), ?_⟩
    have hi : i < 5 := (List.getElem?_eq_some_iff.mp hf).1
    refine ⟨_, rfl, _, rfl, ⟨_, T.fields H⟩, fun D hD => ?_⟩
    refine lc_map (src_tup (xs := [.str "code", .str "title", .str "players", .str "day", .str "length"])) (fun _ => False) (fun j z _ => z = if j = i then x else V.non) (fun _ _ => True) hD (fun z => z) (by show 5 ≤ sizeLine; decide) (fun _ _ _ _ _ h => h) (fun _ _ _ h => h) True.intro (fun _ H1 _ _ _ => T.fields H1) (fun _ _ _ _ k => Imm.of (Kp.ext k)) (fun j z H1 H2 hj kp _ hy Q' q => ?_) fun H1 zs kp hD1 hl hr _ => ?_
    · obtain ⟨rfl, hz⟩ := hy
      have hz2 : ∃ g, FLD[j]? = some g ∧ z = .str g := by
        rcases j with _ | _ | _ | _ | _ | j
        all_goals first | exact ⟨_, rfl, by simpa using hz.symm⟩ | exact absurd hj (by show ¬ j + 1 + 1 + 1 + 1 + 1 < 5; omega)
      obtain ⟨g, hg, rfl⟩ := hz2
      have hgf : (V.str g = V.str f) ↔ j = i := by
        constructor
        · intro e
          injection e with e
          rw [e] at hg
          exact fld_inj hg hf
        · intro e
          rw [e, hf] at hg
          rw [Option.some.inj hg]
      refine ⟨rfl, _, rfl, _, rfl, rfl, _, rfl, ?_⟩
      by_cases e : j = i
      · exact if_decT (hgf.mpr e) ⟨_, rfl, q _ _ Kp.rfl' (if_pos e).symm True.intro⟩
      · exact if_decF (fun z => e (hgf.mp z)) (q _ _ Kp.rfl' (if_neg e).symm True.intro)
    · have e1 := Kp.ext kp
      have ez : zs = (List.range 5).map fun j => if j = i then x else V.non := by
        apply List.ext_getElem?
        intro j
        by_cases hj : j < 5
        · rw [List.getElem?_map, List.getElem?_range hj, List.getElem?_eq_getElem (by rw [hl]; exact hj), hr j _ (List.getElem?_eq_getElem (by rw [hl]; exact hj))]
          rfl
        · rw [List.getElem?_eq_none (by rw [hl]; show 5 ≤ j; omega), List.getElem?_eq_none (by simp; omega)]
      refine ⟨D, zs, rfl, .inl ⟨SqL.of hD1, fun l hl' => ?_⟩⟩
      refine ⟨a, l, kvals k, zs, rfl, rfl, SqT.of ((e1.trans (Ext.upd hl')) _ _ ha), SqT.of upd_same, (by rw [hl]; show 2 + 5 ≤ sizeLine; decide), (fun z => nomatch z), (fun _ z => by rw [z] at hl; cases hl), fun _ _ p hp => ?_⟩
      refine hq p _ ((e1.trans (Ext.upd hl')).trans (Ext.upd hp)) (Ext.free (e1.trans (Ext.upd hl')) hp) (by rw [upd_same, ez])
def sp_rank_of (K : PySem.W.Frag) : Sp := fun vs H Q _ => ∃ f i v th, vs = [.str f, v] ∧ FLD[i]? = some f ∧ ThAt K H v th ∧ th.ok i ∧ ∀ kv H', Ext H H' → Dp K H' kv th.mark → Q kv H'
theorem ok_rank_of (T : Txt K mg) : C8.Cal P w K mg base 1 "rank_of" (sp_rank_of K) [] := by
  obtain ⟨fd, F⟩ := T.d_rank_of
  obtain ⟨t_PARTLESS, k_PARTLESS⟩ := T.k_PARTLESS
  refine cal_of F T.g_rank_of (fun _ _ _ _ _ _ us hl => match us, hl with | [_, _], _ => rfl) sc_rank_of (fun vs H Q E h => ?_) fun cdv A outer s H vs Q E hr h => ?_
  · obtain ⟨f, i, v, th, rfl, hf, hth, ok, hq⟩ := h
    rfl
  · have hu := hu_of hr
    have hu64 := hr.units
    obtain ⟨f, i, v, th, rfl, hf, hth, ok, hq⟩ := h
    refine ⟨_, (pss_cons (ps_if (pt_cmpR op_eq (pv 0) pe_str (nomark _)) (pss_one (ps_ret (pe_tup (pa_cons (pe_fld (pv 1) rfl) (pa_cons (pe_orT (pe_fld (pv 1) rfl) (pe_one (pe_glob (v := .int 0) rfl k_PARTLESS ⟨_, rfl⟩))) (pa_cons (pe_orT (pe_fld (pv 1) rfl) (pe_one (pe_glob (v := .int 0) rfl k_PARTLESS ⟨_, rfl⟩))) pa_nil)))))) pss_nil)
    (pss_cons (ps_if (pt_cmpR op_eq (pv 0) pe_str (nomark _)) (pss_one (ps_ret (pe_fld (pv 1) rfl))) pss_nil)
    (pss_one (ps_ret (pv 1))))), ?_⟩
    rcases th_ok ok with ⟨s, rfl, rfl, k⟩ | ⟨t, x, rfl, rfl, k⟩ | ⟨l, rfl, rfl, k⟩ | ⟨y, m, d, rfl, rfl, k⟩ | ⟨n, rfl, rfl, k⟩
    · cases hf
      refine ⟨_, rfl, rfl, _, rfl, if_decF (by decide) ⟨_, rfl, rfl, _, rfl, if_decF (by decide) ⟨_, rfl, hq _ H Ext.rfl' ?_⟩⟩⟩
      rw [show v = .str s from hth]
      exact .str s
    · cases hf
      exact ⟨_, rfl, rfl, _, rfl, if_decF (by decide) ⟨_, rfl, rfl, _, rfl, if_decF (by decide) ⟨_, rfl, hq _ H Ext.rfl' (dp_name hth)⟩⟩⟩
    · cases hf
      refine ⟨_, rfl, rfl, _, rfl, if_decF (by decide) ⟨_, rfl, rfl, _, rfl, if_decF (by decide) ⟨_, rfl, hq _ H Ext.rfl' ?_⟩⟩⟩
      obtain ⟨a, ws, rfl, ha, hp⟩ := hth
      exact .tup (SqT.of ha) (dp_names hp)
    · cases hf
      obtain ⟨a, dx, rfl, ha⟩ := hth
      refine ⟨_, rfl, rfl, _, rfl, if_decT (by decide) ?_⟩
      refine ⟨_, rfl, a, _, dx, _, _, rfl, ha, T.c_Day, T.n_Day_year, rfl, ?_⟩
      have tn : ∀ i : Int, 1 ≤ i → true = (i != 0) := fun i h => by simp; omega
      have km := fun i e => (k.mr i e).1
      have kd := fun i e => (k.dr i e).1
      refine ⟨_, rfl, a, _, dx, _, _, rfl, ha, T.c_Day, T.n_Day_month, rfl, ?_⟩
      cases m
      · refine ⟨false, rfl, iteF ⟨_, rfl, a, _, dx, _, _, rfl, ha, T.c_Day, T.n_Day_day, rfl, ?_⟩⟩
        cases d
        · exact ⟨false, rfl, iteF ⟨by show 3 ≤ sizeLine; decide, fun p hp => hq _ _ (Ext.upd hp) (.tup (SqT.of upd_same) (.cons (.int _) (.cons (.int _) (.cons (.int _) .nil))))⟩⟩
        · exact ⟨true, tn _ (kd _ rfl), iteT ⟨by show 3 ≤ sizeLine; decide, fun p hp => hq _ _ (Ext.upd hp) (.tup (SqT.of upd_same) (.cons (.int _) (.cons (.int _) (.cons (.int _) .nil))))⟩⟩
      · refine ⟨true, tn _ (km _ rfl), iteT ⟨_, rfl, a, _, dx, _, _, rfl, ha, T.c_Day, T.n_Day_day, rfl, ?_⟩⟩
        cases d
        · exact ⟨false, rfl, iteF ⟨by show 3 ≤ sizeLine; decide, fun p hp => hq _ _ (Ext.upd hp) (.tup (SqT.of upd_same) (.cons (.int _) (.cons (.int _) (.cons (.int _) .nil))))⟩⟩
        · exact ⟨true, tn _ (kd _ rfl), iteT ⟨by show 3 ≤ sizeLine; decide, fun p hp => hq _ _ (Ext.upd hp) (.tup (SqT.of upd_same) (.cons (.int _) (.cons (.int _) (.cons (.int _) .nil))))⟩⟩
    · cases hf
      obtain ⟨a, dx, rfl, ha⟩ := hth
      refine ⟨_, rfl, rfl, _, rfl, if_decF (by decide) ⟨_, rfl, rfl, _, rfl, if_decT (by decide) ?_⟩⟩
      exact ⟨_, rfl, a, _, dx, _, _, rfl, ha, T.c_Length, T.n_Length_seconds, rfl, hq _ H Ext.rfl' (.int n)⟩
end
end TW
set_option Elab.async false
set_option linter.all false
set_option maxRecDepth 100000
set_option maxHeartbeats 4000000
namespace TW
open PySem PySem.Spec PyProof.Rows L2
/-! ### equality of things -/
def DTh (K : PySem.W.Frag) : EqvB := fun x y H b => ∃ i th th', Th.ok i th ∧ Th.ok i th' ∧ ThAt K H x th ∧ ThAt K H y th' ∧ b = decide (th = th')
theorem mon_th {K : PySem.W.Frag} : MonB (DTh K) := fun x y H H' b e ⟨i, th, th', o, o', h, h', r⟩ => ⟨i, th, th', o, o', h.imm (Imm.of e), h'.imm (Imm.of e), r⟩
theorem eqv_names : ∀ l l' : List (Str × Str), PyData.eqvAll (l.map nmark) (l'.map nmark) = decide (l = l')
  | [], [] => by simp [PyData.eqvAll]
  | [], _ :: _ => by simp [PyData.eqvAll]
  | _ :: _, [] => by simp [PyData.eqvAll]
  | p :: l, q :: l' => by
    rw [List.map_cons, List.map_cons, PyData.eqvAll, eqv_names l l']
    obtain ⟨a, b⟩ := p
    obtain ⟨c, d⟩ := q
    simp only [nmark, PyData.eqv, PyData.eqvAll, Bool.and_true, List.cons.injEq, Prod.mk.injEq]
    rw [Bool.eq_iff_iff]
    simp
theorem dp_players {K : PySem.W.Frag} {H : Hp} {v : V} {l : List (Str × Str)} (h : ThAt K H v (.players l)) : Dp K H v (Th.players l).mark := by
  obtain ⟨a, ws, rfl, ha, hp⟩ := h
  exact .tup (SqT.of ha) (dp_names hp)
theorem strOk_al {al x : Str} (h : inAl al x) (ha : al.cps.toList.all (fun c => decide (c < 0x110000)) = true) : PyData.strOk x = true := by
  unfold PyData.strOk
  rw [Array.all_eq_true]
  intro i hi
  have h1 := h _ (Array.getElem_mem_toList hi)
  exact (List.all_eq_true.mp ha) _ h1
theorem ok_LET {x : Str} (h : inAl sLET x) : PyData.strOk x = true := strOk_al h (by decide +kernel)
theorem ok_SIG {x : Str} (h : inAl sSIG x) : PyData.strOk x = true := strOk_al h (by decide +kernel)
theorem ok_COD {x : Str} (h : inAl sCOD x) : PyData.strOk x = true := strOk_al h (by decide +kernel)
theorem canLay_name {p : Str × Str} (h : NameOk p) : (nmark p).canLay0 = true := by
  simp [nmark, PyData.canLay0, PyData.canLayAll0, ok_LET h.al, ok_SIG h.called.al]
theorem canLay_names : ∀ l : List (Str × Str), (∀ p ∈ l, NameOk p) → PyData.canLayAll0 (l.map nmark) = true
  | [], _ => by simp [PyData.canLayAll0]
  | p :: l, h => by
    rw [List.map_cons, PyData.canLayAll0, canLay_names l fun q hq => h q (List.mem_cons_of_mem _ hq), canLay_name (h p List.mem_cons_self)]
    rfl
theorem depth_names : ∀ l : List (Str × Str), PyData.depthAll (l.map nmark) ≤ 1
  | [] => by simp [PyData.depthAll]
  | p :: l => by
    rw [List.map_cons, PyData.depthAll]
    have := depth_names l
    simp [nmark, PyData.depth, PyData.depthAll]
    omega
theorem depth_th (th : Th) : th.mark.depth ≤ 2 := by
  cases th with
  | code s => simp [Th.mark, PyData.depth]
  | name t x => simp [Th.mark, nmark, PyData.depth, PyData.depthAll]
  | players l => have := depth_names l; simp [Th.mark, PyData.depth]; omega
  | day y m d => simp [Th.mark, PyData.depth, PyData.depthAll]
  | len n => simp [Th.mark, PyData.depth]
theorem canLay_th {i : Nat} {th : Th} (o : th.ok i) : th.mark.canLay0 = true := by
  rcases th_ok o with ⟨z, rfl, e, k⟩ | ⟨t, z, rfl, e, k⟩ | ⟨l, rfl, e, k⟩ | ⟨yy, m, d, rfl, e, k⟩ | ⟨n, rfl, e, k⟩
  · simp [Th.mark, PyData.canLay0, ok_COD k.al]
  · exact canLay_name k
  · simp [Th.mark, PyData.canLay0, canLay_names l k.each]
  · simp [Th.mark, PyData.canLay0, PyData.canLayAll0]
  · simp [Th.mark, PyData.canLay0]
theorem shaped_th {i : Nat} {th : Th} (o : th.ok i) : SeqAt.shaped th.mark = true := by
  unfold SeqAt.shaped
  rw [Bool.and_eq_true, decide_eq_true_eq]
  exact ⟨canLay_th o, Nat.le_trans (depth_th th) (by decide)⟩
section
variable {X : Cx} {mg : Str → Option Value}
theorem eqB_th (T : Txt X.K X.mg) : EqB X 2 (DTh X.K) := by
  have hd : EqB X 2 (DDat X.K) := eqB_dat.mono (by decide)
  have h1 : EqB X 2 (DInsB (cDay X.K) (RDay X.K)) := (rcB_ins (ok_Day_eq T)).eqB fun x y H b ⟨a, c, dx, dy, fs, gs, hx, hy, ha, hb, dx1, yy, m, d, dx2, y', m', d', e1, e2, e3⟩ => ⟨a, c, hx, hy, fun z => by
    subst z
    rw [e1] at e2
    have z := Option.some.inj e2
    simp only [HO.ins.injEq, dayFs, List.cons.injEq, Prod.mk.injEq, and_true, true_and, V.int.injEq] at z
    obtain ⟨_, z1, z2, z3⟩ := z
    rw [e3]
    have oi_inj : ∀ {o o' : Option Int}, oi o = oi o' → o = o' := fun {o o'} h => by cases o <;> cases o' <;> simp [oi] at h ⊢ <;> exact h
    rw [z1, oi_inj z2, oi_inj z3]
    simp⟩
  have h2 : EqB X 2 (DInsB (cLength X.K) (RLen X.K)) := ((rcB_ins (ok_Length_eq T)).eqB fun x y H b ⟨a, c, dx, dy, fs, gs, hx, hy, ha, hb, dx1, n, dx2, n', e1, e2, e3⟩ => ⟨a, c, hx, hy, fun z => by
    subst z
    rw [e1] at e2
    have z := Option.some.inj e2
    simp only [HO.ins.injEq, List.cons.injEq, Prod.mk.injEq, and_true, true_and, V.int.injEq] at z
    rw [e3, z.2]
    simp⟩).mono (by decide)
  intro A pins s σ H x y u v b sb I rx ry ⟨i, th, th', o, o', h, h', r⟩
  rcases th_ok o with ⟨z, rfl, e, k⟩ | ⟨t, z, rfl, e, k⟩ | ⟨l, rfl, e, k⟩ | ⟨yy, m, d, rfl, e, k⟩ | ⟨n, rfl, e, k⟩ <;> subst e
  · rcases th_ok o' with ⟨z', rfl, e, k'⟩ | ⟨t', z', rfl, e, k'⟩ | ⟨l', rfl, e, k'⟩ | ⟨y', m', d', rfl, e, k'⟩ | ⟨n', rfl, e, k'⟩
    · refine hd A pins s σ H x y u v b sb I rx ry ⟨.str z, .str z', ?_, ?_, shaped_th o, shaped_th o', ?_⟩
      · rw [show x = V.str z from h]; exact .str z
      · rw [show y = V.str z' from h']; exact .str z'
      · rw [r]
        simp only [PyData.eqv, Th.code.injEq]
        rw [Bool.eq_iff_iff]
        simp
    all_goals cases e
  · rcases th_ok o' with ⟨z', rfl, e, k'⟩ | ⟨t', z', rfl, e, k'⟩ | ⟨l', rfl, e, k'⟩ | ⟨y', m', d', rfl, e, k'⟩ | ⟨n', rfl, e, k'⟩
    · cases e
    · refine hd A pins s σ H x y u v b sb I rx ry ⟨nmark (t, z), nmark (t', z'), dp_name h, dp_name h', shaped_th o, shaped_th o', ?_⟩
      rw [r]
      simp only [nmark, PyData.eqv, PyData.eqvAll, Th.name.injEq, Bool.and_true]
      rw [Bool.eq_iff_iff]
      simp
    all_goals cases e
  · rcases th_ok o' with ⟨z', rfl, e, k'⟩ | ⟨t', z', rfl, e, k'⟩ | ⟨l', rfl, e, k'⟩ | ⟨y', m', d', rfl, e, k'⟩ | ⟨n', rfl, e, k'⟩
    · cases e
    · cases e
    · refine hd A pins s σ H x y u v b sb I rx ry ⟨_, _, dp_players h, dp_players h', shaped_th o, shaped_th o', ?_⟩
      rw [r]
      simp only [Th.mark, PyData.eqv, Th.players.injEq, eqv_names]
    all_goals cases e
  · rcases th_ok o' with ⟨z', rfl, e, k'⟩ | ⟨t', z', rfl, e, k'⟩ | ⟨l', rfl, e, k'⟩ | ⟨y', m', d', rfl, e, k'⟩ | ⟨n', rfl, e, k'⟩
    · cases e
    · cases e
    · cases e
    · obtain ⟨a, dx, rfl, ha⟩ := h
      obtain ⟨c, dy, rfl, hc⟩ := h'
      refine h1 A pins s σ H _ _ u v b sb I rx ry ⟨a, c, dx, dy, _, _, rfl, rfl, ha, hc, dx, yy, m, d, dy, y', m', d', ha, hc, ?_⟩
      rw [r]
      simp only [Th.day.injEq, Prod.mk.injEq]
    · cases e
  · rcases th_ok o' with ⟨z', rfl, e, k'⟩ | ⟨t', z', rfl, e, k'⟩ | ⟨l', rfl, e, k'⟩ | ⟨y', m', d', rfl, e, k'⟩ | ⟨n', rfl, e, k'⟩
    · cases e
    · cases e
    · cases e
    · cases e
    · obtain ⟨a, dx, rfl, ha⟩ := h
      obtain ⟨c, dy, rfl, hc⟩ := h'
      refine h2 A pins s σ H _ _ u v b sb I rx ry ⟨a, c, dx, dy, _, _, rfl, rfl, ha, hc, dx, n, dy, n', ha, hc, ?_⟩
      rw [r]
      simp only [Th.len.injEq]
end
/-! ### a listing's table -/
abbrev Row := List Addr × List (List Th)
abbrev Tab := List (LKey × Row)
/-- the table without its places -/
abbrev ATab := List (LKey × List (List Th))
def absT (T : Tab) : ATab := T.map fun t => (t.1, t.2.2)
def rowK (ls : List Addr) : List (Key × V) := (FLD.zip ls).map fun p => (.inr p.1, .ref p.2)
def ListAt (K : PySem.W.Frag) (H : Hp) (l : Addr) (ths : List Th) : Prop := ∃ vs, H l = some (.lst vs) ∧ Paired (ThAt K H) vs ths
def RowAt (K : PySem.W.Frag) (H : Hp) (v : V) (r : Row) : Prop := ∃ k, v = .ref k ∧ H k = some (.dK (rowK r.1)) ∧ r.1.length = 5 ∧ Paired (ListAt K H) r.1 r.2
def TabAt (K : PySem.W.Frag) (H : Hp) (kvs : List (List Key × V)) (T : Tab) : Prop := Paired (fun kv t => kv.1 = kkey t.1 ∧ RowAt K H kv.2 t.2) kvs T
def lists (T : Tab) : List Addr := T.flatMap (·.2.1)
/-- how one thing is put; how an entry is -/
def addT (ths : List Th) : Option Th → List Th
  | none => ths
  | some th => if th ∈ ths then ths else ths ++ [th]
def addRow (r : List (List Th)) (os : List (Option Th)) : List (List Th) := List.zipWith addT r os
def hasK (t : ATab) (k : LKey) : Bool := t.any fun r => decide (r.1 = k)
def withK (t : ATab) (k : LKey) : ATab := if hasK t k = true then t else t ++ [(k, [[], [], [], [], []])]
def putT (t : ATab) (e : Ent) : ATab := (withK t e.key).map fun r => if r.1 = e.key then (r.1, addRow r.2 e.th) else r
/-- an entry of one thing, of none -/
def aloneE (k : LKey) (i : Nat) (th : Th) : Ent := ⟨k, (List.range 5).map fun j => if j = i then some th else none⟩
def noneE (k : LKey) : Ent := ⟨k, List.replicate 5 none⟩
/-- which things: all of the entries U -/
structure UOk (U : List Ent) : Prop where
  len : U.length ≤ 1000
  each : ∀ e ∈ U, EntOk e
  cn : ∀ e ∈ U, noneE e.key ∈ U
  ca : ∀ e ∈ U, ∀ (i : Nat) (th : Th), e.th[i]? = some (some th) → aloneE e.key i th ∈ U
structure TabOk (U : List Ent) (t : ATab) : Prop where
  nod : (t.map (·.1)).Nodup
  key : ∀ r ∈ t, ∃ e ∈ U, e.key = r.1
  five : ∀ r ∈ t, r.2.length = 5
  nodT : ∀ r ∈ t, ∀ ths ∈ r.2, ths.Nodup
  src : ∀ r ∈ t, ∀ (i : Nat) (ths : List Th), r.2[i]? = some ths → ∀ th ∈ ths, ∃ e ∈ U, e.key = r.1 ∧ e.th[i]? = some (some th)
/-- a listing at p that only we know: B is what is known without it -/
structure LB (K : PySem.W.Frag) (B H : Hp) (p d : Addr) (T : Tab) : Prop where
  ins : ∃ dx, H p = some (.ins (cListing K) dx [("things", .ref d)])
  dic : ∃ kvs, H d = some (.dT kvs) ∧ TabAt K H kvs T
  nod : (lists T).Nodup
  fp : B p = none
  fd : B d = none
  fl : ∀ l ∈ lists T, B l = none
/-- a listing at p -/
def LisAt (K : PySem.W.Frag) (H : Hp) (p : Addr) (t : ATab) : Prop := ∃ dx d kvs T, H p = some (.ins (cListing K) dx [("things", .ref d)]) ∧ Rd H d (.dT kvs) ∧ TabAt K H kvs T ∧ absT T = t
theorem rd_ext {H H' : Hp} {a : Addr} {u : HO} (e : Ext H H') (h : Rd H a u) : Rd H' a u := h.elim (fun h => .inl (e _ _ h)) fun ⟨o, h⟩ => .inr ⟨o, e _ _ h⟩
theorem ListAt.ext {K : PySem.W.Frag} {H H' : Hp} {l : Addr} {ths : List Th} (e : Ext H H') (h : ListAt K H l ths) : ListAt K H' l ths := let ⟨vs, h1, h2⟩ := h; ⟨vs, e _ _ h1, prd_mono (fun _ _ q => q.imm (Imm.of e)) h2⟩
theorem RowAt.ext {K : PySem.W.Frag} {H H' : Hp} {v : V} {r : Row} (e : Ext H H') (h : RowAt K H v r) : RowAt K H' v r := let ⟨k, h1, h2, h3, h4⟩ := h; ⟨k, h1, e _ _ h2, h3, prd_mono (fun _ _ q => q.ext e) h4⟩
theorem TabAt.ext {K : PySem.W.Frag} {H H' : Hp} {kvs : List (List Key × V)} {T : Tab} (e : Ext H H') (h : TabAt K H kvs T) : TabAt K H' kvs T := prd_mono (fun _ _ q => ⟨q.1, q.2.ext e⟩) h
theorem LisAt.ext {K : PySem.W.Frag} {H H' : Hp} {p : Addr} {t : ATab} (e : Ext H H') (h : LisAt K H p t) : LisAt K H' p t :=
  let ⟨dx, d, kvs, T, h1, h2, h3, h4⟩ := h; ⟨dx, d, kvs, T, e _ _ h1, rd_ext e h2, h3.ext e, h4⟩
theorem LB.at_ {K : PySem.W.Frag} {B H : Hp} {p d : Addr} {T : Tab} (h : LB K B H p d T) : LisAt K H p (absT T) := by
  obtain ⟨dx, h1⟩ := h.ins
  obtain ⟨kvs, h2, h3⟩ := h.dic
  exact ⟨dx, d, kvs, T, h1, .inl h2, h3, rfl⟩
theorem LB.ext {K : PySem.W.Frag} {B H H' : Hp} {p d : Addr} {T : Tab} (h : LB K B H p d T) (e : Ext H H') : LB K B H' p d T :=
  ⟨let ⟨dx, a⟩ := h.ins; ⟨dx, e _ _ a⟩, let ⟨kvs, a, b⟩ := h.dic; ⟨kvs, e _ _ a, b.ext e⟩, h.nod, h.fp, h.fd, h.fl⟩
end TW
set_option Elab.async false
set_option linter.all false
set_option maxRecDepth 100000
set_option maxHeartbeats 4000000
namespace TW
open PySem PySem.Spec PyProof.Rows L2
/-! ### the plain table -/
theorem len_sub {α : Type} [DecidableEq α] : ∀ {l l' : List α}, l.Nodup → (∀ a ∈ l, a ∈ l') → l.length ≤ l'.length
  | [], _, _, _ => Nat.zero_le _
  | a :: l, l', nd, h => by
    obtain ⟨n1, n2⟩ := List.nodup_cons.mp nd
    have ha := h a List.mem_cons_self
    have ih := len_sub (l := l) (l' := l'.erase a) n2 fun b hb => (List.mem_erase_of_ne (fun e : b = a => n1 (by rw [← e]; exact hb))).mpr (h b (List.mem_cons_of_mem _ hb))
    rw [List.length_erase_of_mem ha] at ih
    have := List.length_pos_of_mem ha
    rw [List.length_cons]
    omega
theorem hasK_iff {t : ATab} {k : LKey} : hasK t k = true ↔ ∃ r ∈ t, r.1 = k := by
  unfold hasK
  rw [List.any_eq_true]
  simp
section
variable {U : List Ent} {t : ATab}
theorem TabOk.len (o : TabOk U t) (u : UOk U) : t.length ≤ 1000 := by
  have h := len_sub (l := t.map (·.1)) (l' := U.map (·.key)) o.nod fun a ha => by
    obtain ⟨r, hr, e⟩ := List.mem_map.mp ha
    obtain ⟨e', he', e2⟩ := o.key r hr
    exact List.mem_map.mpr ⟨e', he', e2.trans e⟩
  rw [List.length_map, List.length_map] at h
  exact Nat.le_trans h u.len
theorem TabOk.lenT (o : TabOk U t) (u : UOk U) {r : LKey × List (List Th)} (hr : r ∈ t) {i : Nat} {ths : List Th} (hi : r.2[i]? = some ths) : ths.length ≤ 1000 := by
  have h := len_sub (l := ths.map some) (l' := U.map fun e => (e.th[i]?).getD none) ?_ fun a ha => ?_
  · rw [List.length_map, List.length_map] at h
    exact Nat.le_trans h u.len
  · have nd := o.nodT r hr ths (List.mem_of_getElem? hi)
    exact List.Pairwise.map some (fun a b h e => h (Option.some.inj e)) nd
  · obtain ⟨th, ht, e⟩ := List.mem_map.mp ha
    obtain ⟨e', he', _, e2⟩ := o.src r hr i ths hi th ht
    exact List.mem_map.mpr ⟨e', he', by rw [e2, ← e]; rfl⟩
theorem TabOk.okT (o : TabOk U t) (u : UOk U) {r : LKey × List (List Th)} (hr : r ∈ t) {i : Nat} {ths : List Th} (hi : r.2[i]? = some ths) {th : Th} (ht : th ∈ ths) : th.ok i := by
  obtain ⟨e, he, _, h⟩ := o.src r hr i ths hi th ht
  exact (u.each e he).each i th h
theorem TabOk.okK (o : TabOk U t) (u : UOk U) {r : LKey × List (List Th)} (hr : r ∈ t) : KeyOk r.1 := by
  obtain ⟨e, he, h⟩ := o.key r hr
  rw [← h]
  exact (u.each e he).key
theorem tabOk_nil : TabOk U [] := ⟨List.nodup_nil, (fun _ h => nomatch h), (fun _ h => nomatch h), (fun _ h => nomatch h), fun _ h => nomatch h⟩
theorem tabOk_with (o : TabOk U t) {e : Ent} (he : e ∈ U) : TabOk U (withK t e.key) := by
  unfold withK
  by_cases h : hasK t e.key = true
  · rw [if_pos h]; exact o
  · rw [if_neg h]
    have hn : ∀ r ∈ t, r.1 ≠ e.key := fun r hr z => h (hasK_iff.mpr ⟨r, hr, z⟩)
    have em : ∀ (i : Nat) (ths : List Th), ([[], [], [], [], []] : List (List Th))[i]? = some ths → ths = [] := fun i ths h => by
      rcases i with _ | _ | _ | _ | _ | i <;> simp at h <;> exact h
    refine ⟨?_, fun r hr => ?_, fun r hr => ?_, fun r hr ths ht => ?_, fun r hr i ths hi th ht => ?_⟩
    · rw [List.map_append, List.nodup_append]
      refine ⟨o.nod, by simp, fun a ha b hb => ?_⟩
      obtain ⟨r, hr, e1⟩ := List.mem_map.mp ha
      have e2 : b = e.key := by simpa using hb
      rw [← e1, e2]
      exact hn r hr
    all_goals rcases List.mem_append.mp hr with hr | hr
    · exact o.key r hr
    · have z : r = (e.key, [[], [], [], [], []]) := by simpa using hr
      exact ⟨e, he, by rw [z]⟩
    · exact o.five r hr
    · have z : r = (e.key, [[], [], [], [], []]) := by simpa using hr
      rw [z]; rfl
    · exact o.nodT r hr ths ht
    · have z : r = (e.key, [[], [], [], [], []]) := by simpa using hr
      rw [z] at ht
      have : ths = [] := by simpa using ht
      rw [this]; exact List.nodup_nil
    · exact o.src r hr i ths hi th ht
    · have z : r = (e.key, [[], [], [], [], []]) := by simpa using hr
      rw [z] at hi
      rw [em i ths hi] at ht
      cases ht
theorem addT_mem {ths : List Th} {o : Option Th} {th : Th} : th ∈ addT ths o ↔ th ∈ ths ∨ o = some th := by
  cases o with
  | none => simp [addT]
  | some x =>
    show th ∈ (if x ∈ ths then ths else ths ++ [x]) ↔ _
    by_cases hx : x ∈ ths
    · rw [if_pos hx]
      constructor
      · exact .inl
      · rintro (h' | h')
        · exact h'
        · rw [← Option.some.inj h']; exact hx
    · rw [if_neg hx, List.mem_append]
      constructor
      · rintro (h' | h')
        · exact .inl h'
        · exact .inr (by rw [show th = x by simpa using h'])
      · rintro (h' | h')
        · exact .inl h'
        · exact .inr (by rw [← Option.some.inj h']; simp)
theorem addT_nodup {ths : List Th} {o : Option Th} (h : ths.Nodup) : (addT ths o).Nodup := by
  cases o with
  | none => exact h
  | some x =>
    show (if x ∈ ths then ths else ths ++ [x]).Nodup
    by_cases hx : x ∈ ths
    · rw [if_pos hx]; exact h
    · rw [if_neg hx, List.nodup_append]
      exact ⟨h, by simp, fun a ha b hb => by rw [show b = x by simpa using hb]; exact fun z => hx (z ▸ ha)⟩
theorem addRow_get {r : List (List Th)} {os : List (Option Th)} {i : Nat} {ths : List Th} (h : (addRow r os)[i]? = some ths) : ∃ c o, r[i]? = some c ∧ os[i]? = some o ∧ ths = addT c o := by
  unfold addRow at h
  rw [List.getElem?_zipWith] at h
  cases h1 : r[i]? with
  | none => rw [h1] at h; cases h
  | some c =>
    cases h2 : os[i]? with
    | none => rw [h1, h2] at h; cases h
    | some o =>
      rw [h1, h2] at h
      exact ⟨c, o, rfl, rfl, (Option.some.inj h).symm⟩
theorem addRow_len {r : List (List Th)} {os : List (Option Th)} (h1 : r.length = 5) (h2 : os.length = 5) : (addRow r os).length = 5 := by
  unfold addRow
  rw [List.length_zipWith, h1, h2]; rfl
theorem tabOk_put (o : TabOk U t) (u : UOk U) {e : Ent} (he : e ∈ U) : TabOk U (putT t e) := by
  have w := tabOk_with o he
  have five := (u.each e he).five
  unfold putT
  have back : ∀ r' ∈ (withK t e.key).map (fun r => if r.1 = e.key then (r.1, addRow r.2 e.th) else r), ∃ r ∈ withK t e.key, r'.1 = r.1 ∧ ((r.1 = e.key ∧ r' = (r.1, addRow r.2 e.th)) ∨ r' = r) := fun r' h => by
    obtain ⟨r, hr, e1⟩ := List.mem_map.mp h
    refine ⟨r, hr, ?_⟩
    split at e1
    · rename_i hk
      exact ⟨by rw [← e1], .inl ⟨hk, e1.symm⟩⟩
    · exact ⟨by rw [← e1], .inr e1.symm⟩
  refine ⟨?_, fun r hr => ?_, fun r hr => ?_, fun r hr ths ht => ?_, fun r hr i ths hi th ht => ?_⟩
  · rw [List.map_map]
    have : (Prod.fst ∘ fun r : LKey × List (List Th) => if r.1 = e.key then (r.1, addRow r.2 e.th) else r) = Prod.fst := by
      funext r
      show (if r.1 = e.key then (r.1, addRow r.2 e.th) else r).1 = r.1
      split <;> rfl
    rw [this]
    exact w.nod
  all_goals obtain ⟨r0, h0, e1, e2⟩ := back r hr
  · obtain ⟨e', he', h⟩ := w.key r0 h0
    exact ⟨e', he', h.trans e1.symm⟩
  · rcases e2 with ⟨_, e2⟩ | e2
    · rw [e2]; exact addRow_len (w.five r0 h0) five
    · rw [e2]; exact w.five r0 h0
  · rcases e2 with ⟨_, e2⟩ | e2
    · rw [e2] at ht
      obtain ⟨i, hi⟩ := List.mem_iff_getElem?.mp ht
      obtain ⟨c, x, h1, _, rfl⟩ := addRow_get hi
      exact addT_nodup (w.nodT r0 h0 c (List.mem_of_getElem? h1))
    · rw [e2] at ht; exact w.nodT r0 h0 ths ht
  · rcases e2 with ⟨hk, e2⟩ | e2
    · rw [e2] at hi
      obtain ⟨c, x, h1, h2, rfl⟩ := addRow_get hi
      rcases addT_mem.mp ht with ht | ht
      · obtain ⟨e', he', z1, z2⟩ := w.src r0 h0 i c h1 th ht
        exact ⟨e', he', z1.trans e1.symm, z2⟩
      · exact ⟨e, he, hk.symm.trans e1.symm, by rw [h2, ht]⟩
    · rw [e2] at hi ⊢
      exact w.src r0 h0 i ths hi th ht
end
theorem absT_map (T : Tab) : (absT T).map (·.1) = T.map (·.1) := by
  unfold absT
  rw [List.map_map]
  rfl
theorem absT_set {T : Tab} {j : Nat} {k : LKey} {ls : List Addr} {c : List (List Th)} : absT (T.set j (k, (ls, c))) = (absT T).set j (k, c) := by
  unfold absT
  rw [List.map_set]
theorem map_set {k : LKey} {f : LKey × List (List Th) → LKey × List (List Th)} : ∀ {t : ATab} {j : Nat} {r : LKey × List (List Th)}, (t.map (·.1)).Nodup → t[j]? = some r → r.1 = k → t.map (fun r => if r.1 = k then f r else r) = t.set j (f r)
  | [], _, _, _, h, _ => by simp at h
  | x :: t, 0, r, nd, h, hk => by
    have e : x = r := by simpa using h
    subst e
    rw [List.map_cons, if_pos hk, List.set_cons_zero]
    congr 1
    rw [List.map_cons, List.nodup_cons] at nd
    have : ∀ r ∈ t, r.1 ≠ k := fun r hr z => nd.1 (List.mem_map.mpr ⟨r, hr, z.trans hk.symm⟩)
    have h2 : t.map (fun r => if r.1 = k then f r else r) = t.map id := List.map_congr_left fun r hr => if_neg (this r hr)
    rw [h2, List.map_id]
  | x :: t, j + 1, r, nd, h, hk => by
    rw [List.map_cons, List.nodup_cons] at nd
    have h' : t[j]? = some r := by simpa using h
    have hx : x.1 ≠ k := fun z => nd.1 (List.mem_map.mpr ⟨r, List.mem_of_getElem? h', hk.trans z.symm⟩)
    rw [List.map_cons, if_neg hx, List.set_cons_succ, map_set nd.2 h' hk]

/-! ### the table in the heap -/
section
variable {K : PySem.W.Frag} {B H : Hp} {p d : Addr} {T : Tab}
theorem lists_cons (x : LKey × Row) (T : Tab) : lists (x :: T) = x.2.1 ++ lists T := by simp [lists]
theorem lists_set {k : LKey} {ls : List Addr} {c c' : List (List Th)} : ∀ {T : Tab} {j : Nat} {k' : LKey}, T[j]? = some (k', (ls, c)) → lists (T.set j (k, (ls, c'))) = lists T
  | [], _, _, h => by simp at h
  | x :: T, 0, k', h => by
    have e : x = (k', (ls, c)) := by simpa using h
    rw [e, List.set_cons_zero, lists_cons, lists_cons]
  | x :: T, j + 1, _, h => by
    rw [List.set_cons_succ, lists_cons, lists_cons, lists_set (T := T) (by simpa using h)]
theorem mem_lists {t : LKey × Row} {l : Addr} (ht : t ∈ T) (hl : l ∈ t.2.1) : l ∈ lists T := List.mem_flatMap.mpr ⟨t, ht, hl⟩
theorem ListAt.keep {l l' : Addr} {o : HO} {ths : List Th} {vs : List V} (hl : H l = some (.lst vs)) (h : ListAt K H l' ths) (ne : l' ≠ l) : ListAt K (upd H l o) l' ths :=
  let ⟨ws, h1, h2⟩ := h; ⟨ws, by rw [upd_ne ne]; exact h1, prd_mono (fun _ _ q => q.imm (Imm.upd fun o' e => by rw [hl] at e; rw [← Option.some.inj e]; rfl)) h2⟩
theorem lists_keep {l : Addr} {o : HO} {vs : List V} (hl : H l = some (.lst vs)) : ∀ {ls : List Addr} {cs : List (List Th)}, Paired (ListAt K H) ls cs → l ∉ ls → Paired (ListAt K (upd H l o)) ls cs
  | _, _, .nil, _ => .nil
  | _, _, .cons a t, n => .cons (a.keep hl fun z => n (z ▸ List.mem_cons_self)) (lists_keep hl t fun z => n (List.mem_cons_of_mem _ z))
theorem RowAt.keep {l : Addr} {o : HO} {vs : List V} {v : V} {r : Row} (hl : H l = some (.lst vs)) (h : RowAt K H v r) (n : l ∉ r.1) : RowAt K (upd H l o) v r :=
  let ⟨k, h1, h2, h3, h4⟩ := h; ⟨k, h1, by rw [upd_ne (ne_of h2 hl fun z => nomatch z)]; exact h2, h3, lists_keep hl h4 n⟩
theorem tab_keep {l : Addr} {o : HO} {vs : List V} (hl : H l = some (.lst vs)) : ∀ {kvs : List (List Key × V)} {T : Tab}, TabAt K H kvs T → l ∉ lists T → TabAt K (upd H l o) kvs T
  | _, _, .nil, _ => .nil
  | _, _, .cons (b := t) (l₂ := T) a r, n => by
    rw [lists_cons, List.mem_append, not_or] at n
    exact .cons ⟨a.1, a.2.keep hl n.1⟩ (tab_keep hl r n.2)
theorem row_app {l : Addr} {vs : List V} {v : V} {th : Th} {ths : List Th} (hl : H l = some (.lst vs)) (hv : ThAt K H v th) : ∀ {ls : List Addr} {cs : List (List Th)} {i : Nat}, Paired (ListAt K H) ls cs → ls.Nodup → ls[i]? = some l → cs[i]? = some ths →
    Paired (ListAt K (upd H l (.lst (vs ++ [v])))) ls (cs.set i (ths ++ [th]))
  | _, _, _, .nil, _, h, _ => by simp at h
  | l' :: ls, c :: cs, 0, .cons a t, nd, h, h' => by
    have e : l' = l := by simpa using h
    have e' : c = ths := by simpa using h'
    subst e e'
    rw [List.set_cons_zero]
    refine .cons ?_ (lists_keep hl t (List.nodup_cons.mp nd).1)
    obtain ⟨ws, h1, h2⟩ := a
    rw [hl] at h1
    cases h1
    have im : Imm H (upd H l' (.lst (vs ++ [v]))) := Imm.upd fun o' e => by rw [hl] at e; rw [← Option.some.inj e]; rfl
    exact ⟨_, upd_same, Paired.snoc (prd_mono (fun _ _ q => q.imm im) h2) (hv.imm im)⟩
  | l' :: ls, c :: cs, i + 1, .cons a t, nd, h, h' => by
    have hm : l ∈ ls := List.mem_of_getElem? (by simpa using h)
    rw [List.set_cons_succ]
    exact .cons (a.keep hl fun z => (List.nodup_cons.mp nd).1 (z ▸ hm)) (row_app hl hv t (List.nodup_cons.mp nd).2 (by simpa using h) (by simpa using h'))
theorem tab_app {l : Addr} {vs : List V} {v : V} {th : Th} {ths : List Th} {k : LKey} {ls : List Addr} {cs : List (List Th)} {i : Nat} (hl : H l = some (.lst vs)) (hv : ThAt K H v th) (h1 : ls[i]? = some l) (h2 : cs[i]? = some ths) :
    ∀ {kvs : List (List Key × V)} {T : Tab} {j : Nat}, TabAt K H kvs T → (lists T).Nodup → T[j]? = some (k, (ls, cs)) → TabAt K (upd H l (.lst (vs ++ [v]))) kvs (T.set j (k, (ls, cs.set i (ths ++ [th]))))
  | _, _, _, .nil, _, h => by simp at h
  | _, t :: T, 0, .cons a r, nd, h => by
    have e : t = (k, (ls, cs)) := by simpa using h
    subst e
    rw [lists_cons, List.nodup_append] at nd
    rw [List.set_cons_zero]
    have hm : l ∈ ls := List.mem_of_getElem? h1
    refine .cons ⟨a.1, ?_⟩ (tab_keep hl r fun z => nd.2.2 l hm l z rfl)
    obtain ⟨q, e1, e2, e3, e4⟩ := a.2
    exact ⟨q, e1, by rw [upd_ne (ne_of e2 hl fun z => nomatch z)]; exact e2, e3, row_app hl hv e4 nd.1 h1 h2⟩
  | _, t :: T, j + 1, .cons a r, nd, h => by
    have h' : T[j]? = some (k, (ls, cs)) := by simpa using h
    rw [lists_cons, List.nodup_append] at nd
    rw [List.set_cons_succ]
    have hm : l ∈ lists T := mem_lists (List.mem_of_getElem? h') (List.mem_of_getElem? h1)
    exact .cons ⟨a.1, a.2.keep hl fun z => nd.2.2 l z l hm rfl⟩ (tab_app hl hv h1 h2 r nd.2.1 h')
theorem LB.app (h : LB K B H p d T) {l : Addr} {vs : List V} {v : V} {th : Th} {ths : List Th} {k : LKey} {ls : List Addr} {cs : List (List Th)} {i j : Nat} (hl : H l = some (.lst vs)) (hv : ThAt K H v th) (h1 : ls[i]? = some l) (h2 : cs[i]? = some ths) (h3 : T[j]? = some (k, (ls, cs))) :
    LB K B (upd H l (.lst (vs ++ [v]))) p d (T.set j (k, (ls, cs.set i (ths ++ [th])))) := by
  obtain ⟨dx, e1⟩ := h.ins
  obtain ⟨kvs, e2, e3⟩ := h.dic
  refine ⟨⟨dx, by rw [upd_ne (ne_of e1 hl fun z => nomatch z)]; exact e1⟩, ⟨kvs, by rw [upd_ne (ne_of e2 hl fun z => nomatch z)]; exact e2, tab_app hl hv h1 h2 e3 h.nod h3⟩, ?_, h.fp, h.fd, ?_⟩
  · rw [lists_set h3]; exact h.nod
  · rw [lists_set h3]; exact h.fl
theorem prd_at {α β : Type} {R : α → β → Prop} : ∀ {xs : List α} {ys : List β} {i : Nat} {y : β}, Paired R xs ys → ys[i]? = some y → ∃ x, xs[i]? = some x ∧ R x y
  | _, _, i, x, .nil, h => by simp at h
  | p :: _, q :: _, 0, x, .cons a t, h => by
    have e : q = x := by simpa using h
    exact ⟨p, rfl, e ▸ a⟩
  | _ :: _, _ :: _, i + 1, x, .cons a t, h => by
    obtain ⟨y, h1, h2⟩ := prd_at (i := i) t (by simpa using h)
    exact ⟨y, by simpa using h1, h2⟩
theorem kkey_inj {k k' : LKey} (h : kkey k = kkey k') : k = k' := by
  obtain ⟨a, b⟩ := k
  obtain ⟨c, e⟩ := k'
  simp only [kkey, List.cons.injEq, Sum.inr.injEq, Sum.inl.injEq, and_true] at h
  rw [h.1, h.2]
/-- the row of a key in the dict -/
theorem tab_val {k : LKey} : ∀ {kvs : List (List Key × V)} {T : Tab}, TabAt K H kvs T → (∀ v, valV kvs (kkey k) = some v → ∃ (j : Nat) (r : Row), T[j]? = some (k, r) ∧ RowAt K H v r) ∧ (valV kvs (kkey k) = none → hasK (absT T) k = false)
  | _, _, .nil => ⟨(fun v h => by rw [valV_nil] at h; cases h), fun _ => rfl⟩
  | _, _, .cons (a := kv) (b := t) (l₁ := kvs) (l₂ := T) a r => by
    obtain ⟨i1, i2⟩ := tab_val (k := k) r
    by_cases e : kv.1 = kkey k
    · rw [valV_pos e]
      have ek : t.1 = k := kkey_inj (a.1.symm.trans e)
      refine ⟨fun v h => ⟨0, t.2, by rw [← ek]; rfl, by rw [← Option.some.inj h]; exact a.2⟩, fun h => nomatch h⟩
    · rw [valV_neg e]
      have ek : t.1 ≠ k := fun z => e (by rw [a.1, z])
      refine ⟨fun v h => ?_, fun h => ?_⟩
      · obtain ⟨j, r, h1, h2⟩ := i1 v h
        exact ⟨j + 1, r, by simpa using h1, h2⟩
      · have := i2 h
        show (decide (t.1 = k) || hasK (absT T) k) = false
        rw [this, decide_eq_false ek]
        rfl
end
end TW
set_option Elab.async false
set_option linter.all false
set_option maxRecDepth 100000
set_option maxHeartbeats 4000000
namespace TW
open PySem PySem.Spec PyProof.Rows L2
section
variable {P : Program} {w : World} {K : PySem.W.Frag} {mg : Str → Option Value} {base : Heap}

theorem rowK_get {ls : List Addr} (h5 : ls.length = 5) {i : Nat} {f : Str} {l : Addr} (hf : FLD[i]? = some f) (hl : ls[i]? = some l) : valV (rowK ls) (Sum.inr f : Key) = some (.ref l) := by
  obtain ⟨a, b, c, d, e, rfl⟩ := five_of h5
  rcases i with _ | _ | _ | _ | _ | i
  · cases hf; cases hl; rfl
  · cases hf; cases hl; rfl
  · cases hf; cases hl; rfl
  · cases hf; cases hl; rfl
  · cases hf; cases hl; rfl
  · exact absurd (List.getElem?_eq_some_iff.mp hf).1 (by show ¬ i + 1 + 1 + 1 + 1 + 1 < 5; omega)
/-- the first i fields of an entry put -/
def stepRow (i : Nat) (cs : List (List Th)) (os : List (Option Th)) : List (List Th) := List.zipWith addT cs (os.take i ++ List.replicate (os.length - i) none)
theorem stepRow_zero {cs : List (List Th)} {os : List (Option Th)} (h : cs.length = os.length) : stepRow 0 cs os = cs := by
  unfold stepRow
  rw [List.take_zero, List.nil_append, Nat.sub_zero]
  apply List.ext_getElem?
  intro i
  rw [List.getElem?_zipWith]
  cases hc : cs[i]? with
  | none => rfl
  | some c =>
    have hi := (List.getElem?_eq_some_iff.mp hc).1
    rw [List.getElem?_replicate, if_pos (by omega)]
    rfl
theorem stepRow_all {cs : List (List Th)} {os : List (Option Th)} : stepRow os.length cs os = addRow cs os := by
  unfold stepRow addRow
  rw [List.take_length, Nat.sub_self, List.replicate_zero, List.append_nil]
theorem stepRow_len {i : Nat} {cs : List (List Th)} {os : List (Option Th)} (h : cs.length = os.length) (hi : i ≤ os.length) : (stepRow i cs os).length = cs.length := by
  unfold stepRow
  rw [List.length_zipWith, List.length_append, List.length_take, List.length_replicate]
  omega
theorem stepRow_at {i : Nat} {cs : List (List Th)} {os : List (Option Th)} {c : List Th} (hc : cs[i]? = some c) (hi : i < os.length) : (stepRow i cs os)[i]? = some c := by
  unfold stepRow
  rw [List.getElem?_zipWith, hc, List.getElem?_append_right (by rw [List.length_take]; omega), List.getElem?_replicate, if_pos (by rw [List.length_take]; omega)]
  rfl
theorem stepRow_succ {i : Nat} {cs : List (List Th)} {os : List (Option Th)} {c : List Th} {o : Option Th} (h : cs.length = os.length) (hc : cs[i]? = some c) (ho : os[i]? = some o) : stepRow (i + 1) cs os = (stepRow i cs os).set i (addT c o) := by
  have hi := (List.getElem?_eq_some_iff.mp ho).1
  have hl := stepRow_len (i := i) h (by omega)
  apply List.ext_getElem?
  intro j
  rw [List.getElem?_set, hl]
  by_cases e : i = j
  · subst e
    rw [if_pos rfl, if_pos (by omega)]
    unfold stepRow
    rw [List.getElem?_zipWith, hc, List.getElem?_append_left (by rw [List.length_take]; omega), List.getElem?_take_of_lt (by omega), ho]
  · rw [if_neg e]
    unfold stepRow
    rw [List.getElem?_zipWith, List.getElem?_zipWith]
    have : (os.take (i + 1) ++ List.replicate (os.length - (i + 1)) none)[j]? = (os.take i ++ List.replicate (os.length - i) none)[j]? := by
      by_cases hj : j < i
      · rw [List.getElem?_append_left (by rw [List.length_take]; omega), List.getElem?_append_left (by rw [List.length_take]; omega), List.getElem?_take_of_lt (by omega), List.getElem?_take_of_lt (by omega)]
      · rw [List.getElem?_append_right (by rw [List.length_take]; omega), List.getElem?_append_right (by rw [List.length_take]; omega), List.getElem?_replicate, List.getElem?_replicate, List.length_take, List.length_take]
        by_cases hj2 : j < os.length
        · rw [if_pos (by omega), if_pos (by omega)]
        · rw [if_neg (by omega), if_neg (by omega)]
    rw [this]
theorem next_ok {D : Ends} {σ : L2.St} {H : Hp} (h : D.nx σ H) : tNext D σ H := h
theorem set_same {α : Type} {l : List α} {i : Nat} {c : α} (h : l[i]? = some c) : l.set i c = l := by
  apply List.ext_getElem?
  intro j
  rw [List.getElem?_set]
  by_cases e : i = j
  · subst e
    rw [if_pos rfl, if_pos (List.getElem?_eq_some_iff.mp h).1, h]
  · rw [if_neg e]
theorem anyB_mem {ths : List Th} {th : Th} : anyB (fun m => decide (ths[m]? = some th)) ths.length 0 = decide (th ∈ ths) := by
  unfold anyB
  rw [List.drop_zero, Bool.eq_iff_iff, List.any_eq_true, decide_eq_true_eq, List.mem_iff_getElem?]
  constructor
  · rintro ⟨m, _, h⟩
    exact ⟨m, of_decide_eq_true h⟩
  · rintro ⟨m, h⟩
    exact ⟨m, List.mem_range.mpr (List.getElem?_eq_some_iff.mp h).1, decide_eq_true h⟩
def sp_Listing_put (K : PySem.W.Frag) : Sp := fun vs H Q _ => ∃ B p d T v e U, vs = [.ref p, v] ∧ Ext B H ∧ LB K B H p d T ∧ EntAt K B v e ∧ UOk U ∧ e ∈ U ∧ TabOk U (absT T) ∧ ∀ H' T', Ext B H' → LB K B H' p d T' → absT T' = putT (absT T) e → Q .non H'
theorem ok_Listing_put (T : Txt K mg) : C8.Met P w K mg base 5 (He.ga K "Listing") "put" (sp_Listing_put K) [] := by
  obtain ⟨fd, F⟩ := T.d_Listing_put
  refine met_of T.c_Listing T.t_Listing_put F (fun _ _ _ _ _ _ us hl => match us, hl with | [_, _], _ => rfl) sc_Listing_put (fun vs H Q E h => ?_) fun cdv A outer s H vs Q E hr h => ?_
  · obtain ⟨B, p, d, T0, v, e, U, rfl, eB, lb, ent, uo, heU, tok, hq⟩ := h
    rfl
  · have hu := hu_of hr
    have hu64 := hr.units
    obtain ⟨B, p, d, T0, v, e, U, rfl, eB, lb, ent, uo, heU, tok, hq⟩ := h
    refine ⟨_, (pss_cons (ps_if (pt_not (pt_val (C8.pe_c (ok_is_entry T) hr (by decide) rfl (pa_cons (pv 1) pa_nil)))) (pss_one ps_never) pss_nil)
    (pss_cons (ps_set (i := 2) sc_Listing_put.nd rfl (by first | exact Or.inl rfl | exact Or.inr rfl) (pe_dsetT hu (pe_fld (pv 0) rfl) (C8.pe_c (ok_key_of T) hr (by decide) rfl (pa_cons (pv 1) pa_nil)) (pe_callTy (call_dictP rfl) (by rfl) T.f_dict (by decide +kernel) (pa_cons (pe_lc (own := [("field", 3)]) (by rfl) sc_Listing_put.nd (pi_tup (pe_glob (v := .ref (He.ga K "FIELDS")) rfl T.g_FIELDS rfl)) (blkOk_by (N := N_Listing_put) (sc := defScope s_Listing_put) (by decide +kernel)) (fun _ _ _ _ _ => (pg_name (i := 3) sc_Listing_put.nd rfl (by first | exact Or.inl rfl | exact Or.inr rfl))) (fun _ _ _ _ _ => by exact pts_nil) (fun _ _ _ _ _ => by exact (pe_tup (pa_cons (pv 3) (pa_cons (pe_lst pa_nil) pa_nil))))) pa_nil)) ⟨by rfl, by rfl, by rfl, by rfl⟩))
    (pss_one (ps_for PassesOwn.never rfl (pi_tup (pe_glob (v := .ref (He.ga K "FIELDS")) rfl T.g_FIELDS rfl)) (pg_name (i := 3) sc_Listing_put.nd rfl (by first | exact Or.inl rfl | exact Or.inr rfl))
    (pss_cons (ps_set (i := 4) sc_Listing_put.nd rfl (by first | exact Or.inl rfl | exact Or.inr rfl) (C8.pe_c (ok_field_of T) hr (by decide) rfl (pa_cons (pv 1) (pa_cons (pv 3) pa_nil))))
    (pss_one (ps_if (PW.pt (pw_and (pt_cmpR op_notN (pv 4) pe_non (nomark _)) (pw_and1 (pt_cmpR (op_notInB mon_th (eqB_th T) (hr.mono (by decide))) (pv 4) (pe_dget hu (pv 2) (pv 3) (fun _ _ => rfl)) rfl)))) (pss_one (ps_expr (pe_bm PySem.F.plainAttrs_list PySem.F.slot_list_append PySem.F.type_list_append mt_append (pe_dget hu (pv 2) (pv 3) (fun _ _ => rfl)) (pa_cons (pv 4) pa_nil)))) pss_nil))))))), ?_⟩
    have ok := uo.each e heU
    refine ⟨_, rfl, v, e, rfl, ent.imm (Imm.of eB), ok, fun H1 e1 => ⟨true, rfl, iteF ?_⟩⟩
    have lb1 := lb.ext e1
    have eB1 := eB.trans e1
    refine next_ok ?_
    dsimp only
    refine seq_cut (fun σ H' => ∃ (T1 : Tab) (j : Nat) (ls : List Addr) (cs : List (List Th)) (kk : Addr), σ = [some (.ref p), some v, some (.ref kk), none, none] ∧ Ext B H' ∧ LB K B H' p d T1 ∧ T1[j]? = some (e.key, (ls, cs)) ∧ ls.length = 5 ∧ H' kk = some (.dK (rowK ls)) ∧ absT T1 = withK (absT T0) e.key) (fun N hN => ?_) (fun σ H' hP => ?_)
    · obtain ⟨dx, hins⟩ := lb1.ins
      obtain ⟨kvs, hdic, htab⟩ := lb1.dic
      refine ⟨_, rfl, p, _, dx, _, _, rfl, hins, T.c_Listing, T.n_Listing_things, rfl, d, rfl, .inr ⟨kvs, .inl hdic⟩, ?_⟩
      refine ⟨_, rfl, v, e, rfl, ent.imm (Imm.of eB1), ok.five, fun b hb => ?_⟩
      have ne_b : ∀ {a o}, H1 a = some o → a ≠ b := fun h => ne_of_none h hb
      refine ⟨_, rfl, ⟨_, T.fields _⟩, fun D hD => ?_⟩
      generalize hH2 : upd H1 b (.tup (kvals e.key)) = H2 at hD
      have e2 : Ext H1 H2 := by rw [← hH2]; exact Ext.upd hb
      refine lc_src (src_tup (xs := [.str "code", .str "title", .str "players", .str "day", .str "length"])) (fun i H' => ∃ ts ls : List Addr, H' D = some (.lst (ts.map V.ref)) ∧ ts.length = i ∧ ls.length = i ∧ (∀ (j : Nat) t l f, ts[j]? = some t → ls[j]? = some l → FLD[j]? = some f → H' t = some (.tup [.str f, .ref l])) ∧ (∀ l ∈ ls, H' l = some (.lst []) ∧ H2 l = none) ∧ ls.Nodup ∧ D ∉ ls ∧ Ext H2 H')
        ⟨[], [], upd_same, rfl, rfl, (fun j t l f h => by simp at h), (fun l h => nomatch h), List.nodup_nil, (fun h => nomatch h), Ext.upd hD⟩ (fun i H' _ h => T.fields _) (fun i x H3 H4 hi p' hy => ?_) fun H3 p' => ?_
      · obtain ⟨rfl, hx⟩ := hy
        obtain ⟨ts, ls, hD3, l1, l2, htl, hls, nd, hDn, e3⟩ := p'
        refine ⟨rfl, _, rfl, ⟨by show 0 ≤ sizeLine; decide, fun l hl => ⟨by show 2 ≤ sizeLine; decide, fun t ht => ?_⟩⟩⟩
        have e4 : Ext H4 (upd H4 l (.lst [])) := Ext.upd hl
        have e5 := e4.trans (Ext.upd ht (o := .tup [x, .ref l]))
        have hnl : l ∉ ls := fun z => by rw [(hls l z).1] at hl; cases hl
        have hDl : D ≠ l := ne_of_none hD3 hl
        refine ⟨_, e5 _ _ hD3, ?_, ts ++ [t], ls ++ [l], ?_, by rw [List.length_append, l1]; rfl, by rw [List.length_append, l2]; rfl, fun j t' l' f h1 h2 h3 => ?_, fun l' hl' => ?_, ?_, ?_, ?_⟩
        · rw [List.length_map, l1]
          exact Nat.lt_trans hi (by show 5 < sizeLine; decide)
        · rw [upd_same, List.map_append]; rfl
        · have ht' : t' ≠ D := by
            by_cases hj : j < ts.length
            · rw [List.getElem?_append_left hj] at h1
              have := htl j t' _ f h1 (List.getElem?_eq_getElem (by omega)) h3
              exact ne_of this hD3 fun z => nomatch z
            · rw [List.getElem?_append_right (by omega)] at h1
              have : j - ts.length = 0 := by
                rcases Nat.eq_zero_or_pos (j - ts.length) with h | h
                · exact h
                · rw [List.getElem?_eq_none (by simp; omega)] at h1; cases h1
              rw [this] at h1
              have e6 : t = t' := by simpa using h1
              rw [← e6]
              exact (ne_of_none (e4 _ _ hD3) ht).symm
          rw [upd_ne ht']
          by_cases hj : j < ts.length
          · rw [List.getElem?_append_left hj] at h1
            rw [List.getElem?_append_left (by omega)] at h2
            exact e5 _ _ (htl j t' l' f h1 h2 h3)
          · rw [List.getElem?_append_right (by omega)] at h1 h2
            have hj0 : j - ts.length = 0 := by
              rcases Nat.eq_zero_or_pos (j - ts.length) with h | h
              · exact h
              · rw [List.getElem?_eq_none (by simp; omega)] at h1; cases h1
            have hj1 : j - ls.length = 0 := by omega
            rw [hj0] at h1
            rw [hj1] at h2
            have e6 : t = t' := by simpa using h1
            have e7 : l = l' := by simpa using h2
            have hji : j = i := by omega
            rw [← e6, ← e7, upd_same]
            have hxf : x = .str f := by
              rw [hji] at h3
              rcases i with _ | _ | _ | _ | _ | i
              all_goals first | (cases h3; simpa using hx.symm) | exact absurd hi (by show ¬ i + 1 + 1 + 1 + 1 + 1 < 5; omega)
            rw [hxf]
        · have hl'' : l' ≠ D := by
            rcases List.mem_append.mp hl' with h | h
            · exact fun z => hDn (z ▸ h)
            · rw [show l' = l by simpa using h]; exact hDl.symm
          rw [upd_ne hl'']
          rcases List.mem_append.mp hl' with h | h
          · exact ⟨e5 _ _ (hls l' h).1, (hls l' h).2⟩
          · have e7 : l' = l := by simpa using h
            rw [e7]
            refine ⟨?_, Ext.free e3 hl⟩
            rw [upd_ne (ne_of_none upd_same ht)]
            exact upd_same
        · rw [List.nodup_append]
          exact ⟨nd, by simp, fun a ha b' hb' => by rw [show b' = l by simpa using hb']; exact fun z => hnl (z ▸ ha)⟩
        · rw [List.mem_append, not_or]
          exact ⟨hDn, by simpa using hDl⟩
        · exact Ext.mut (e3.trans e5) hD
      · obtain ⟨ts, ls, hD3, l1, l2, htl, hls, nd, hDn, e3⟩ := p'
        have l1' : ts.length = 5 := l1
        have l2' : ls.length = 5 := l2
        have hmerge : mergeK [] (rowK ls) = rowK ls := by
          obtain ⟨a, b, c, d, e, rfl⟩ := five_of l2'
          rfl
        have hpair : Paired (fun (q : Addr) (kv : Key × V) => SqT K H3 q [kV kv.1, kv.2]) ts (rowK ls) := by
          obtain ⟨a0, a1, a2, a3, a4, rfl⟩ := five_of l1'
          obtain ⟨b0, b1, b2, b3, b4, rfl⟩ := five_of l2'
          exact .cons (SqT.of (htl 0 a0 b0 _ rfl rfl rfl)) (.cons (SqT.of (htl 1 a1 b1 _ rfl rfl rfl)) (.cons (SqT.of (htl 2 a2 b2 _ rfl rfl rfl)) (.cons (SqT.of (htl 3 a3 b3 _ rfl rfl rfl)) (.cons (SqT.of (htl 4 a4 b4 _ rfl rfl rfl)) .nil))))
        refine ⟨D, ts, rowK ls, rfl, SqL.of hD3, hpair, fun q hq' => ?_⟩
        rw [hmerge]
        have E3 : Ext H1 H3 := e2.trans e3
        have E4 : Ext H1 (upd H3 q (.dK (rowK ls))) := E3.trans (Ext.upd hq')
        have lb4 := lb1.ext E4
        have hb4 : (upd H3 q (.dK (rowK ls))) b = some (.tup ((kkey e.key).map kV)) := (e3.trans (Ext.upd hq')) _ _ (by rw [← hH2, upd_same]; rfl)
        have hlen : kvs.length = T0.length := prd_len htab
        refine ⟨kvs, kkey e.key, b, rfl, E4 _ _ hdic, hb4, ?_, fun v' hv' => ?_, fun hn => ?_⟩
        · rw [hlen]
          have := tok.len uo
          unfold absT at this
          rw [List.length_map] at this
          exact Nat.lt_of_le_of_lt this (by decide)
        · obtain ⟨j, r, h1, q', h2, h3, h4, h5⟩ := (tab_val (htab.ext E4)).1 v' hv'
          rw [h2]
          have hh : hasK (absT T0) e.key = true := hasK_iff.mpr ⟨(e.key, r.2), List.mem_map.mpr ⟨(e.key, r), List.mem_of_getElem? h1, rfl⟩, rfl⟩
          exact hN _ _ ⟨T0, j, r.1, r.2, q', rfl, eB1.trans E4, lb4, h1, h4, h3, by unfold withK; rw [if_pos hh]⟩
        · have hh : hasK (absT T0) e.key = false := (tab_val (htab.ext E4)).2 hn
          rw [putK_new _ hn]
          have hdq : d ≠ q := ne_of_none (E3 _ _ hdic) hq'
          have im : Imm (upd H3 q (.dK (rowK ls))) (upd (upd H3 q (.dK (rowK ls))) d (.dT (kvs ++ [(kkey e.key, .ref q)]))) := Imm.upd fun o' h => by rw [E4 _ _ hdic] at h; rw [← Option.some.inj h]; rfl
          have lkeep : ∀ {l : Addr} {ws : List V}, (upd H3 q (.dK (rowK ls))) l = some (.lst ws) → (upd (upd H3 q (.dK (rowK ls))) d (.dT (kvs ++ [(kkey e.key, .ref q)]))) l = some (.lst ws) := fun {l ws} h => by
            rw [upd_ne (ne_of h (E4 _ _ hdic) fun z => nomatch z)]; exact h
          have latk : ∀ {l : Addr} {ths : List Th}, ListAt K (upd H3 q (.dK (rowK ls))) l ths → ListAt K (upd (upd H3 q (.dK (rowK ls))) d (.dT (kvs ++ [(kkey e.key, .ref q)]))) l ths := fun {l ths} ⟨ws, a1, a2⟩ => ⟨ws, lkeep a1, prd_mono (fun _ _ z => z.imm im) a2⟩
          have ratk : ∀ {v : V} {r : Row}, RowAt K (upd H3 q (.dK (rowK ls))) v r → RowAt K (upd (upd H3 q (.dK (rowK ls))) d (.dT (kvs ++ [(kkey e.key, .ref q)]))) v r := fun {v r} ⟨k, a1, a2, a3, a4⟩ => ⟨k, a1, by rw [upd_ne (ne_of a2 (E4 _ _ hdic) fun z => nomatch z)]; exact a2, a3, prd_mono (fun _ _ z => latk z) a4⟩
          have nlist : ∀ l ∈ ls, l ∉ lists T0 := fun l hl z => by
            obtain ⟨t, ht, hlt⟩ := List.mem_flatMap.mp z
            have h0 : H1 l = none := by
              have := (hls l hl).2
              exact Ext.free e2 this
            obtain ⟨i, hi⟩ := List.mem_iff_getElem?.mp ht
            obtain ⟨kv, _, _, k', _, _, _, e'⟩ := prd_at htab hi
            obtain ⟨m, hm⟩ := List.mem_iff_getElem?.mp hlt
            obtain ⟨_, _, ws, z1, _⟩ := prd_get e' hm
            rw [h0] at z1
            cases z1
          have hqq : (upd (upd H3 q (.dK (rowK ls))) d (.dT (kvs ++ [(kkey e.key, .ref q)]))) q = some (.dK (rowK ls)) := by rw [upd_ne hdq.symm, upd_same]
          have rnew : RowAt K (upd (upd H3 q (.dK (rowK ls))) d (.dT (kvs ++ [(kkey e.key, .ref q)]))) (.ref q) (ls, [[], [], [], [], []]) := by
            refine ⟨q, rfl, hqq, l2', ?_⟩
            have z : ∀ l ∈ ls, ListAt K (upd (upd H3 q (.dK (rowK ls))) d (.dT (kvs ++ [(kkey e.key, .ref q)]))) l [] := fun l hl => ⟨[], lkeep (by rw [upd_ne (ne_of_none (hls l hl).1 hq')]; exact (hls l hl).1), .nil⟩
            obtain ⟨b0, b1, b2, b3, b4, rfl⟩ := five_of l2'
            exact .cons (z _ (by simp)) (.cons (z _ (by simp)) (.cons (z _ (by simp)) (.cons (z _ (by simp)) (.cons (z _ (by simp)) .nil))))
          refine hN _ _ ⟨T0 ++ [(e.key, (ls, [[], [], [], [], []]))], T0.length, ls, [[], [], [], [], []], q, rfl, ?_, ⟨⟨dx, ?_⟩, ⟨_, upd_same, Paired.snoc (prd_mono (fun _ _ z => ⟨z.1, ratk z.2⟩) (htab.ext E4)) ⟨rfl, rnew⟩⟩, ?_, lb1.fp, lb1.fd, ?_⟩, by rw [List.getElem?_append_right (Nat.le_refl _), Nat.sub_self]; rfl, l2', hqq, ?_⟩
          · exact Ext.mut (eB1.trans E4) lb1.fd
          · rw [upd_ne (ne_of (E4 _ _ hins) (E4 _ _ hdic) fun z => nomatch z)]
            exact E4 _ _ hins
          · unfold lists
            rw [List.flatMap_append, List.nodup_append]
            refine ⟨lb1.nod, by simpa using nd, fun a ha b' hb' => ?_⟩
            have hb'' : b' ∈ ls := by simpa using hb'
            exact fun z => nlist b' hb'' (z ▸ ha)
          · intro l hl
            unfold lists at hl
            rw [List.flatMap_append] at hl
            rcases List.mem_append.mp hl with h | h
            · exact lb1.fl l h
            · have h' : l ∈ ls := by simpa using h
              exact Ext.free (eB1.trans e2) (hls l h').2
          · unfold absT withK
            rw [if_neg (by rw [show hasK (T0.map fun t => (t.1, t.2.2)) e.key = false from hh]; decide), List.map_append]
            rfl
    obtain ⟨T1, j, ls, cs, kk, rfl, eB4, lb4, hj, h5, hkk, habs⟩ := hP
    obtain ⟨a, ws, rfl, ha, hpw⟩ := ent
    have w5 := (prd_len hpw).trans ok.five
    have okT1 : TabOk U (absT T1) := by rw [habs]; exact tabOk_with tok heU
    have rowMem : (e.key, cs) ∈ absT T1 := List.mem_map.mpr ⟨_, List.mem_of_getElem? hj, rfl⟩
    have c5 : cs.length = 5 := okT1.five _ rowMem
    have ceq : cs.length = e.th.length := by rw [c5, ok.five]
    have jlt := (List.getElem?_eq_some_iff.mp hj).1
    refine ⟨_, rfl, ⟨_, T.fields _⟩, ?_⟩
    refine for_src (src_tup (xs := [.str "code", .str "title", .str "players", .str "day", .str "length"])) (fun i σ H' => ∃ s3 s4, σ = [some (.ref p), some (.ref a), some (.ref kk), s3, s4] ∧ Ext B H' ∧ LB K B H' p d (T1.set j (e.key, (ls, stepRow i cs e.th))) ∧ H' kk = some (.dK (rowK ls)))
      ⟨_, _, rfl, eB4, by rw [stepRow_zero ceq, set_same hj]; exact lb4, hkk⟩ (fun i σ H' _ h => T.fields _) (fun i x σ H1 H2 hi hp' hy => ?_) (fun σ H1 hp' => ?_)
    · obtain ⟨rfl, hx⟩ := hy
      obtain ⟨s3, s4, rfl, eB5, lb5, hk5⟩ := hp'
      have hi5 : i < 5 := hi
      obtain ⟨f, hf, rfl⟩ : ∃ f, FLD[i]? = some f ∧ x = .str f := by
        rcases i with _ | _ | _ | _ | _ | i
        all_goals first | exact ⟨_, rfl, by simpa using hx.symm⟩ | exact absurd hi5 (by omega)
      obtain ⟨z, hz⟩ : ∃ z, ws[i]? = some z := ⟨_, List.getElem?_eq_getElem (by omega)⟩
      obtain ⟨o, ho, hzo⟩ := prd_get hpw hz
      obtain ⟨c, hc⟩ : ∃ c, cs[i]? = some c := ⟨_, List.getElem?_eq_getElem (by omega)⟩
      obtain ⟨l, hl⟩ : ∃ l, ls[i]? = some l := ⟨_, List.getElem?_eq_getElem (by omega)⟩
      have hgz : (kvals e.key ++ ws)[2 + i]? = some z := by
        show (V.str e.key.1 :: V.int e.key.2 :: ws)[2 + i]? = some z
        rw [Nat.add_comm 2 i]
        exact hz
      have hat := stepRow_at (os := e.th) hc (by rw [ok.five]; exact hi5)
      have hsucc := stepRow_succ ceq hc ho
      refine ⟨_, rfl, _, rfl, a, _, i, f, rfl, eB5 _ _ ha, hf, z, hgz, ?_⟩
      refine ⟨_, rfl, rfl, _, rfl, ?_⟩
      rcases oth_cases (hzo.imm (Imm.of eB5)) with ⟨hz0, ho0⟩ | ⟨th, ho0, hth, hzn⟩
      · refine if_ndecF hz0 (iteF ⟨_, _, rfl, eB5, ?_, hk5⟩)
        rw [hsucc, ho0]
        show LB K B H2 p d (T1.set j (e.key, (ls, (stepRow i cs e.th).set i c)))
        rw [set_same hat]
        exact lb5
      · obtain ⟨kvs, hdic, htab⟩ := lb5.dic
        have hj5 : (T1.set j (e.key, (ls, stepRow i cs e.th)))[j]? = some (e.key, (ls, stepRow i cs e.th)) := List.getElem?_set_self jlt
        obtain ⟨_, _, _, _, _, _, _, hlist⟩ := prd_at htab hj5
        obtain ⟨c', hc', vs, hvs, hvp⟩ := prd_get hlist hl
        rw [hat] at hc'
        cases hc'
        have okth : th.ok i := (ok.each i th (by rw [ho, ho0]))
        have hvl := prd_len hvp
        have dget : ∀ {H3 : Hp}, Ext H2 H3 → DGet H3 kk (.str f) (some (.ref l)) := fun e3 => .inl ⟨rowK ls, .inr f, .inl (e3 _ _ hk5), rfl, (rowK_get h5 hf hl).symm⟩
        refine if_ndecT hzn ⟨_, rfl, _, rfl, _, rfl, kk, .ref l, rfl, dget Ext.rfl', l, vs, fun m => decide (c[m]? = some th), rfl, hvs, fun m z' hm => ?_, fun H3 e3 => ⟨_, rfl, ?_⟩⟩
        · obtain ⟨th', hm', hth'⟩ := prd_get hvp hm
          refine ⟨i, th', th, okT1.okT uo rowMem hc (List.mem_of_getElem? hm'), okth, hth', hth, ?_⟩
          show decide (c[m]? = some th) = _
          rw [hm']
          exact decide_eq_decide.mpr ⟨fun h => Option.some.inj h, fun h => by rw [h]⟩
        · rw [hvl, anyB_mem]
          by_cases hmem : th ∈ c
          · rw [decide_eq_true hmem]
            refine iteF ⟨_, _, rfl, eB5.trans e3, ?_, e3 _ _ hk5⟩
            rw [hsucc, ho0]
            have : addT c (some th) = c := if_pos hmem
            rw [this, set_same hat]
            exact lb5.ext e3
          · rw [decide_eq_false hmem]
            have hvs3 := e3 _ _ hvs
            refine iteT ⟨_, rfl, _, rfl, kk, .ref l, rfl, dget e3, .inl ⟨rfl, _, SqL.of hvs3⟩, _, rfl, l, vs, z, rfl, rfl, hvs3, ?_, ⟨_, _, rfl, ?_, ?_, ?_⟩⟩
            · rw [hvl]
              exact Nat.lt_of_le_of_lt (okT1.lenT uo rowMem hc) (by decide)
            · exact Ext.mut (eB5.trans e3) (lb5.fl l (by rw [lists_set hj]; exact mem_lists (List.mem_of_getElem? hj) (List.mem_of_getElem? hl)))
            · have h' := (lb5.ext e3).app hvs3 (hth.imm (Imm.of e3)) hl hat hj5
              rw [List.set_set] at h'
              rw [hsucc, ho0]
              have : addT c (some th) = c ++ [th] := if_neg hmem
              rw [this]
              exact h'
            · rw [upd_ne (ne_of (e3 _ _ hk5) hvs3 fun z => nomatch z)]
              exact e3 _ _ hk5
    · obtain ⟨s3, s4, rfl, eB5, lb5, hk5⟩ := hp'
      have e5 : ([V.str "code", .str "title", .str "players", .str "day", .str "length"] : List V).length = e.th.length := ok.five.symm
      rw [e5, stepRow_all] at lb5
      refine hq _ _ eB5 lb5 ?_
      rw [absT_set, habs]
      unfold putT
      have hjj : (withK (absT T0) e.key)[j]? = some (e.key, cs) := by
        rw [← habs]
        unfold absT
        rw [List.getElem?_map, hj]
        rfl
      rw [map_set (f := fun r => (r.1, addRow r.2 e.th)) (by rw [← habs]; exact okT1.nod) hjj rfl]
end
end TW
set_option Elab.async false
set_option linter.all false
set_option maxRecDepth 100000
set_option maxHeartbeats 4000000
namespace TW
open PySem PySem.Spec PyProof.Rows L2
section
variable {P : Program} {w : World} {K : PySem.W.Frag} {mg : Str → Option Value} {base : Heap}

theorem tabOk_fold {U : List Ent} (u : UOk U) : ∀ {es : List Ent} {t : ATab}, TabOk U t → (∀ e ∈ es, e ∈ U) → TabOk U (es.foldl putT t)
  | [], _, o, _ => o
  | e :: es, t, o, h => tabOk_fold (es := es) (t := putT t e) u (tabOk_put o u (h e List.mem_cons_self)) fun e' he' => h e' (List.mem_cons_of_mem _ he')
/-- entries, in a list or a tuple; or None -/
def EntsAt (K : PySem.W.Frag) (H : Hp) (x : V) (es : List Ent) : Prop := (x = .non ∧ es = []) ∨ ∃ a vs, x = .ref a ∧ (SqL K H a vs ∨ SqT K H a vs) ∧ Paired (EntAt K H) vs es
def tabOf (es : List Ent) : ATab := es.foldl putT []
theorem fold_take {es : List Ent} {i : Nat} {e : Ent} (h : es[i]? = some e) : (es.take (i + 1)).foldl putT [] = putT ((es.take i).foldl putT []) e := by
  rw [List.take_add_one, h, Option.toList_some, List.foldl_append]
  rfl
theorem upd_ne_none {H : Hp} {p q : Addr} {o : HO} (h : upd H p o q = none) : H q = none ∧ q ≠ p := by
  by_cases e : q = p
  · rw [e, upd_same] at h; cases h
  · rw [upd_ne e] at h; exact ⟨h, e⟩
section
variable {X : Cx} {k j : Nat} {C : Addr} {x : Str} {sp : Sp} {dvs : List V} {p pos : Pos}
theorem pe_mk0 (c : C8.Mak X.prog X.w X.K X.mg X.base k x C sp dvs) (hr : Room j X.A) (hk : k + 1 ≤ j) (hg : Gl X x) (hdb : (x == ("__debug__" : Str)) = false := by decide) : PE X (.Call (.Name x p) [] [] pos) (tMake C sp dvs C8.E0 tNil) := by
  obtain ⟨f, fd, ps, ds, M, F, hm, b, d⟩ := c.ex
  exact pe_make0 M F (hr.mono hk) hg hm b d C8.pass0 hdb
end
def sp_Listing_init (K : PySem.W.Frag) : Sp := fun vs H Q _ => ∃ B p dx x es U, vs = [.ref p, x] ∧ Ext B H ∧ B p = none ∧ H p = some (.ins (cListing K) dx []) ∧ EntsAt K B x es ∧ UOk U ∧ (∀ e ∈ es, e ∈ U) ∧ ∀ H' d T, Ext B H' → LB K B H' p d T → absT T = tabOf es → Q .non H'
theorem fo_Listing_init (T : Txt K mg) : ∃ fd, FunD K "__init__" "Listing.__init__" (defArgs s_Listing_init) (defBody s_Listing_init) (defScope s_Listing_init) [V.non] [] (He.ma K (He.ga K "Listing") "__init__") fd ∧ FnOk P w K mg base C8.CX0 6 (He.ma K (He.ga K "Listing") "__init__") fd ["self", "entries"] (sp_Listing_init K) := by
  obtain ⟨fd, F⟩ := T.d_Listing_init
  refine ⟨fd, F, F.ok sc_Listing_init (fun vs H Q E h => ?_) fun cdv A outer s H vs Q E hr h => ?_⟩
  · obtain ⟨B, p, dx, x, es, U, rfl, eB, hBp, hp, hes, uo, hsub, hq⟩ := h
    rfl
  · have hu := hu_of hr
    have hu64 := hr.units
    obtain ⟨B, p, dx, x, es, U, rfl, eB, hBp, hp, hes, uo, hsub, hq⟩ := h
    refine ⟨_, PSs.nox (pss_cons (ps_fld (pv 0) pe_dnewT rfl)
    (pss_one (ps_for PassesOwn.never rfl (PI.or (pi_list (pe_ifExp (pt_cmpR op_isN (pv 1) pe_non (nomark _)) (pe_tup pa_nil) (pv 1))) (pi_tup (pe_ifExp (pt_cmpR op_isN (pv 1) pe_non (nomark _)) (pe_tup pa_nil) (pv 1)))) (pg_name (i := 2) sc_Listing_init.nd rfl (by first | exact Or.inl rfl | exact Or.inr rfl))
    (pss_one (ps_expr (C8.pe_mt (ok_Listing_put T) hr (by decide) (pv 0) (pa_cons (pv 2) pa_nil))))))), ?_⟩
    intro d hd
    have hdp : d ≠ p := (ne_of_none hp hd).symm
    refine ⟨_, rfl, p, _, dx, [], rfl, (by rw [upd_ne hdp.symm]; exact hp), T.c_Listing, T.n_Listing_things, (show 0 < 1000 by decide), ?_⟩
    dsimp only
    have hBd : B d = none := Ext.free eB hd
    have e1 : Ext B (upd (upd H d (.dT [])) p (.ins (cListing K) dx (putF "things" (.ref d) []))) := Ext.mut (Ext.mut eB hBd) hBp
    have lb : LB K B (upd (upd H d (.dT [])) p (.ins (cListing K) dx (putF "things" (.ref d) []))) p d [] := ⟨⟨dx, by rw [upd_same]; rfl⟩, ⟨[], by rw [upd_ne hdp, upd_same], .nil⟩, List.nodup_nil, hBp, hBd, fun _ h => nomatch h⟩
    rcases hes with ⟨rfl, rfl⟩ | ⟨a, ws, rfl, hseq, hpw⟩
    · refine .inr ⟨_, rfl, rfl, _, rfl, if_decT rfl ⟨by show 0 ≤ sizeLine; decide, fun t ht => ⟨t, rfl, ⟨[], SqT.of upd_same⟩, ?_⟩⟩⟩
      refine for_src (src_tup (xs := [])) (fun i σ H' => Ext B H' ∧ LB K B H' p d [] ∧ H' t = some (.tup [])) ⟨e1.trans (Ext.upd ht), lb.ext (Ext.upd ht), upd_same⟩ (fun i σ H' _ h => SqT.of h.2.2) (fun i x σ H1 H2 hi _ _ => absurd hi (Nat.not_lt_zero _)) fun σ H' h => hq H' d [] h.1 h.2.1 rfl
    · have body : ∀ (i : Nat) (z : V) (σ : L2.St) (H2 : Hp) (Nx : L2.St → Hp → Prop), ws[i]? = some z → (∃ s2, σ = [some (.ref p), some (.ref a), s2]) → Ext B H2 → (∃ T1, LB K B H2 p d T1 ∧ absT T1 = (es.take i).foldl putT []) →
          (∀ σ' H', (∃ s2, σ' = [some (.ref p), some (.ref a), s2]) → Ext B H' → (∃ T1, LB K B H' p d T1 ∧ absT T1 = (es.take (i + 1)).foldl putT []) → Nx σ' H') →
          tMeth (He.ga K "Listing") "put" (sp_Listing_put K) [] C8.E0 (tVar 0) (tCons (tVar 2) tNil) (σ.set 2 (some z)) H2 fun _ H' => Nx (σ.set 2 (some z)) H' := by
        rintro i z σ H2 Nx hz ⟨s2, rfl⟩ eB2 ⟨T1, lb2, ab⟩ hN
        obtain ⟨e, he, hze⟩ := prd_get hpw hz
        obtain ⟨dx', hins⟩ := lb2.ins
        have tk : TabOk U (absT T1) := by rw [ab]; exact tabOk_fold uo tabOk_nil fun e' he' => hsub e' (List.mem_of_mem_take he')
        refine ⟨_, rfl, p, dx', _, rfl, hins, rfl, _, rfl, B, p, d, T1, z, e, U, rfl, eB2, lb2, hze, uo, hsub e (List.mem_of_getElem? he), tk, fun H' T' e3 lb3 ab3 => hN _ _ ⟨_, rfl⟩ e3 ⟨T', lb3, ?_⟩⟩
        rw [ab3, ab, fold_take he]
      have fin : ∀ H', Ext B H' → (∃ T1, LB K B H' p d T1 ∧ absT T1 = (es.take ws.length).foldl putT []) → Q .non H' := fun H' e3 ⟨T1, l3, ab⟩ => hq H' d T1 e3 l3 (by rw [ab, prd_len hpw, List.take_length]; rfl)
      rcases hseq with hseq | hseq
      · refine .inl ⟨_, rfl, rfl, _, rfl, if_decF (fun z => nomatch z) ⟨_, rfl, a, rfl, ⟨ws, SqL.ext hseq e1⟩, ?_⟩⟩
        refine for_src (src_list (xs := ws)) (fun i σ H' => (∃ s2, σ = [some (.ref p), some (.ref a), s2]) ∧ Ext B H' ∧ ∃ T1, LB K B H' p d T1 ∧ absT T1 = (es.take i).foldl putT []) ⟨⟨_, rfl⟩, e1, [], lb, rfl⟩ (fun i σ H' _ h => SqL.ext hseq h.2.1) (fun i z σ H1 H2 hi h hy => ?_) fun σ H' h => fin H' h.2.1 h.2.2
        obtain ⟨rfl, hz⟩ := hy
        exact body i z σ H2 _ hz h.1 h.2.1 h.2.2 fun σ' H' a b c => ⟨a, b, c⟩
      · refine .inr ⟨_, rfl, rfl, _, rfl, if_decF (fun z => nomatch z) ⟨_, rfl, a, rfl, ⟨ws, SqT.ext hseq e1⟩, ?_⟩⟩
        refine for_src (src_tup (xs := ws)) (fun i σ H' => (∃ s2, σ = [some (.ref p), some (.ref a), s2]) ∧ Ext B H' ∧ ∃ T1, LB K B H' p d T1 ∧ absT T1 = (es.take i).foldl putT []) ⟨⟨_, rfl⟩, e1, [], lb, rfl⟩ (fun i σ H' _ h => SqT.ext hseq h.2.1) (fun i z σ H1 H2 hi h hy => ?_) fun σ H' h => fin H' h.2.1 h.2.2
        obtain ⟨rfl, hz⟩ := hy
        exact body i z σ H2 _ hz h.1 h.2.1 h.2.2 fun σ' H' a b c => ⟨a, b, c⟩
theorem mk_Listing_0 (T : Txt K mg) : C8.Mak P w K mg base 6 "Listing" (He.ga K "Listing") (sp_Listing_init K) [V.non] := by
  obtain ⟨fd, F, ok⟩ := fo_Listing_init (P := P) (w := w) (base := base) T
  obtain ⟨ds, v, b⟩ := FunD.binds1 F 1 0 (by simp) rfl (ps := ["self", "entries"]) (fun _ _ _ _ _ _ _ us its h1 h2 => match us, its, h1, h2 with | [u0], [d0], _, _ => ⟨_, rfl, rfl⟩)
  exact ⟨_, fd, _, ds, T.m_Listing, ok, T.g_Listing, b, v⟩
theorem mk_Listing_1 (T : Txt K mg) : C8.Mak P w K mg base 6 "Listing" (He.ga K "Listing") (sp_Listing_init K) [] := by
  obtain ⟨fd, F, ok⟩ := fo_Listing_init (P := P) (w := w) (base := base) T
  obtain ⟨ds, v, b⟩ := FunD.binds1 F 2 1 (by simp) rfl (ps := ["self", "entries"]) (fun _ _ _ _ _ _ _ us its h1 h2 => match us, its, h1, h2 with | [u0, u1], [d0], _, _ => ⟨_, rfl, rfl⟩)
  exact ⟨_, fd, _, ds, T.m_Listing, ok, T.g_Listing, b, v⟩
end
end TW
set_option Elab.async false
set_option linter.all false
set_option maxRecDepth 100000
set_option maxHeartbeats 4000000
namespace TW
open PySem PySem.Spec PyProof.Rows L2
open PySem.W (AllAlike Sortable dataLe alike)
/-! ### things sorted by their marks -/
def sortTh (ths : List Th) : List Th := ths.mergeSort (dataLe false Th.mark)
def vds (vs : List V) (ths : List Th) : List VD := (vs.zip ths).map fun p => (p.1, p.2.mark)
theorem prd_zip {α β : Type} {R : α → β → Prop} : ∀ {xs : List α} {ys : List β}, Paired R xs ys → (xs.zip ys).map Prod.fst = xs ∧ (xs.zip ys).map Prod.snd = ys ∧ ∀ p ∈ xs.zip ys, R p.1 p.2
  | _, _, .nil => ⟨rfl, rfl, fun _ h => nomatch h⟩
  | _, _, .cons a t => by
    obtain ⟨h1, h2, h3⟩ := prd_zip t
    refine ⟨by rw [List.zip_cons_cons, List.map_cons, h1], by rw [List.zip_cons_cons, List.map_cons, h2], fun p hp => ?_⟩
    rw [List.zip_cons_cons] at hp
    rcases List.mem_cons.mp hp with e | hp
    · rw [e]; exact a
    · exact h3 p hp
theorem prd_of {α β : Type} {R : α → β → Prop} : ∀ {zs : List (α × β)}, (∀ p ∈ zs, R p.1 p.2) → Paired R (zs.map Prod.fst) (zs.map Prod.snd)
  | [], _ => .nil
  | z :: zs, h => .cons (h z List.mem_cons_self) (prd_of fun p hp => h p (List.mem_cons_of_mem _ hp))
section
variable {K : PySem.W.Frag} {H : Hp} {vs : List V} {ths : List Th}
theorem vds_fst (h : Paired (ThAt K H) vs ths) : (vds vs ths).map Prod.fst = vs := by
  unfold vds
  rw [List.map_map]
  exact (prd_zip h).1
theorem vds_snd (h : Paired (ThAt K H) vs ths) : (vds vs ths).map Prod.snd = ths.map Th.mark := by
  unfold vds
  rw [List.map_map]
  show (vs.zip ths).map (Th.mark ∘ Prod.snd) = _
  rw [← List.map_map, (prd_zip h).2.1]
theorem srt_th (h : Paired (ThAt K H) vs ths) : Paired (ThAt K H) (srt (vds vs ths)) (sortTh ths) := by
  obtain ⟨h1, h2, h3⟩ := prd_zip h
  have e1 : srt (vds vs ths) = ((vs.zip ths).mergeSort (dataLe false fun p => p.2.mark)).map Prod.fst := by
    have z := List.map_mergeSort (r := dataLe false fun p : V × Th => p.2.mark) (s := dataLe false (Prod.snd : VD → PyData)) (f := fun p : V × Th => ((p.1, p.2.mark) : VD)) (l := vs.zip ths) (fun a _ b _ => rfl)
    unfold srt vds
    rw [← z, List.map_map]
    rfl
  have e2 : sortTh ths = ((vs.zip ths).mergeSort (dataLe false fun p => p.2.mark)).map Prod.snd := by
    unfold sortTh
    have z := List.map_mergeSort (r := dataLe false fun p : V × Th => p.2.mark) (s := dataLe false Th.mark) (f := (Prod.snd : V × Th → Th)) (l := vs.zip ths) (fun a _ b _ => rfl)
    rw [z, h2]
  rw [e1, e2]
  exact prd_of fun p hp => h3 p (List.mem_mergeSort.mp hp)
end
theorem alike_names : ∀ l l' : List (Str × Str), PySem.W.alikeAll (l.map nmark) (l'.map nmark) = true
  | [], [] => by simp [PySem.W.alikeAll]
  | [], _ :: _ => by simp [PySem.W.alikeAll]
  | _ :: _, [] => by simp [PySem.W.alikeAll]
  | p :: l, q :: l' => by
    rw [List.map_cons, List.map_cons, PySem.W.alikeAll, alike_names l l', alike_name]
    rfl
theorem alike_th {i : Nat} {th th' : Th} (o : th.ok i) (o' : th'.ok i) : alike th.mark th'.mark = true := by
  rcases th_ok o with ⟨z, rfl, e, k⟩ | ⟨t, z, rfl, e, k⟩ | ⟨l, rfl, e, k⟩ | ⟨yy, m, d, rfl, e, k⟩ | ⟨n, rfl, e, k⟩ <;> subst e
  all_goals rcases th_ok o' with ⟨z', rfl, e, k'⟩ | ⟨t', z', rfl, e, k'⟩ | ⟨l', rfl, e, k'⟩ | ⟨y', m', d', rfl, e, k'⟩ | ⟨n', rfl, e, k'⟩ <;> first | cases e | skip
  · simp [Th.mark, alike]
  · exact alike_name _ _
  · simp [Th.mark, alike, alike_names]
  · simp [Th.mark, alike, PySem.W.alikeAll]
  · simp [Th.mark, alike]
section
variable {i : Nat} {ths : List Th} (o : ∀ th ∈ ths, Th.ok i th)
include o
theorem all_th : AllAlike (ths.map Th.mark) := by
  intro d hd d' hd'
  obtain ⟨t, ht, rfl⟩ := List.mem_map.mp hd
  obtain ⟨t', ht', rfl⟩ := List.mem_map.mp hd'
  exact alike_th (o t ht) (o t' ht')
theorem sort_ok_th : Sortable (ths.map Th.mark) := by
  have key : ∀ th ∈ ths, (i = 0 ∨ i = 4) ∧ (th.mark ≠ .none ∧ ∀ xs, th.mark ≠ .tuple xs) ∨ (¬ (i = 0 ∨ i = 4)) ∧ ∃ x r, th.mark = .tuple (x :: r) := fun th h => by
    rcases th_ok (o th h) with ⟨z, rfl, e, k⟩ | ⟨t, z, rfl, e, k⟩ | ⟨l, rfl, e, k⟩ | ⟨yy, m, d, rfl, e, k⟩ | ⟨n, rfl, e, k⟩
    · exact .inl ⟨.inl e, (fun z => nomatch z), fun _ z => nomatch z⟩
    · exact .inr ⟨by omega, _, _, rfl⟩
    · refine .inr ⟨by omega, ?_⟩
      cases l with
      | nil => exact absurd k.lo (by show ¬ 1 ≤ 0; omega)
      | cons p l => exact ⟨_, _, rfl⟩
    · exact .inr ⟨by omega, _, _, rfl⟩
    · exact .inl ⟨.inr e, (fun z => nomatch z), fun _ z => nomatch z⟩
  by_cases h : i = 0 ∨ i = 4
  · refine .inr fun d hd => ?_
    obtain ⟨t, ht, rfl⟩ := List.mem_map.mp hd
    rcases key t ht with ⟨_, q⟩ | ⟨n, _⟩
    · exact q
    · exact absurd h n
  · refine .inl fun d hd => ?_
    obtain ⟨t, ht, rfl⟩ := List.mem_map.mp hd
    rcases key t ht with ⟨q, _⟩ | ⟨_, q⟩
    · exact absurd q h
    · exact q
end
/-- the things of a key and field -/
def lookR (t : ATab) (k : LKey) : Option (List (List Th)) := (t.find? fun r => decide (r.1 = k)).map (·.2)
def look (t : ATab) (k : LKey) (i : Nat) : List Th := ((lookR t k).bind fun r => r[i]?).getD []
theorem lookR_of {t : ATab} {r : LKey × List (List Th)} (nd : (t.map (·.1)).Nodup) (h : r ∈ t) : lookR t r.1 = some r.2 := by
  induction t with
  | nil => cases h
  | cons x t ih =>
    rw [List.map_cons, List.nodup_cons] at nd
    unfold lookR
    rcases List.mem_cons.mp h with e | h
    · rw [← e, List.find?_cons_of_pos (by simp)]; rfl
    · have : x.1 ≠ r.1 := fun z => nd.1 (List.mem_map.mpr ⟨r, h, z.symm⟩)
      rw [List.find?_cons_of_neg (by simpa using this)]
      exact ih nd.2 h
theorem look_of {t : ATab} {r : LKey × List (List Th)} (nd : (t.map (·.1)).Nodup) (h : r ∈ t) {i : Nat} {ths : List Th} (hi : r.2[i]? = some ths) : look t r.1 i = ths := by
  unfold look
  rw [lookR_of nd h]
  show (r.2[i]?).getD [] = ths
  rw [hi]; rfl
end TW
set_option Elab.async false
set_option linter.all false
set_option maxRecDepth 100000
set_option maxHeartbeats 4000000
namespace TW
open PySem PySem.Spec PyProof.Rows L2
section
variable {P : Program} {w : World} {K : PySem.W.Frag} {mg : Str → Option Value} {base : Heap}

open LamX NdefX
/-! ### told: a def that makes a lambda -/
def tDef : Str × Option Str := ("Listing", some "told")
/-- its code object, and the table of it -/
abbrev tC' (K : PySem.W.Frag) : Addr := (He.cT K tDef).1
abbrev tP (K : PySem.W.Frag) : Addr := (He.cT K tDef).2
abbrev TT (K : PySem.W.Frag) : List (Addr × Str) := [(tP K, "Listing.told" ++ ".<locals>." ++ "<lambda>")]
theorem met_ofC {C : Addr} {m qual : Str} {params : Arguments} {body : List Stmt} {scope : Scope} {f : Addr} {fd : FuncData} {N ps : List Str} {k : Nat} {sp : Sp} {p : Str × Option Str} (hf : He.fAd K p = f) (c : Cls K C) (me : Meth K C m f) (F : FunD K m qual params body scope [] [] f fd)
    (hb : ∀ (kV doc pm : Value) (an : Option Addr) (cdv ct : Value) (us : List Value), us.length = ps.length → bindArgs (PySem.W.fnOf m qual params body scope .none kV doc pm an cdv ct) ⟨us, []⟩ = pure (ps.zip us))
    (S : FnScope N ps scope) (len : ∀ vs H Q E, sp vs H Q E → vs.length = ps.length)
    (hbody : ∀ (A : Around) (outer : List Env) (s : Shared) (H : Hp) (vs : List V) (Q : VK) (E : XK), Room k (A.deeper (envOfC qual scope s.heap.objs.size f (.ref (He.cT K p).1))) → sp vs H Q E →
      ∃ t, PSs (cxOf C8.CX0 P w K mg base N qual scope f (.ref (He.cT K p).1) A outer s H E).nox body t ∧ t { nx := fun _ H' => Q .non H', rt := Q } (start N vs) H) : C8.Met P w K mg base (k + 1) C m sp [] := by
  have F' := F
  obtain ⟨oc, od, dV, kV, doc, pm, an, cdv, ct, osl, rfl, lk, hcd, _, _⟩ := F.ex
  obtain ⟨cc, rfl⟩ := He.codeIn_ref hcd
  have e : (He.cT K p).1 = cc := He.codeOf_eq (by rw [hf]; exact lk) rfl
  refine ⟨f, _, ps, [], c, me, fn_of lk hcd S len (fun A outer s H vs Q E hr h => ?_), FunD.bindsN F' hb, .nil⟩
  rw [← e] at hr ⊢
  obtain ⟨t, a, b⟩ := hbody A outer s H vs Q E hr h
  exact ⟨t, a.nox, b⟩
theorem LisAt.extN {H H' : Hp} {p : Addr} {t : ATab} (e : ExtN H H') (h : LisAt K H p t) : LisAt K H' p t := by
  obtain ⟨dx, d, kvs, T, h1, h2, h3, h4⟩ := h
  have rd : Rd H' d (.dT kvs) := h2.elim (fun h => .inl (e _ _ h fun _ z => nomatch z)) fun ⟨o, h⟩ => .inr ⟨o, e _ _ h fun _ z => nomatch z⟩
  have im : Imm H H' := fun b o h i => e b o h fun ps z => by rw [z] at i; cases i
  refine ⟨dx, d, kvs, T, e _ _ h1 (fun _ z => nomatch z), rd, prd_mono (fun kv t q => ⟨q.1, ?_⟩) h3, h4⟩
  obtain ⟨k, a1, a2, a3, a4⟩ := q.2
  exact ⟨k, a1, e _ _ a2 (fun _ z => nomatch z), a3, prd_mono (fun l ths ⟨vs, b1, b2⟩ => ⟨vs, e _ _ b1 (fun _ z => nomatch z), prd_mono (fun _ _ z => z.imm im) b2⟩) a4⟩
theorem ExtN.imm {H H' : Hp} (e : ExtN H H') : Imm H H' := fun b o h i => e b o h fun ps z => by rw [z] at i; cases i
/-- the row of a key, from a listing -/
theorem lis_row {H : Hp} {U : List Ent} {kvs : List (List Key × V)} {T : Tab} {k : LKey} (h : TabAt K H kvs T) (tok : TabOk U (absT T)) (hk : hasK (absT T) k = true) :
    ∃ (v : V) (j : Nat) (r : Row), valV kvs (kkey k) = some v ∧ T[j]? = some (k, r) ∧ RowAt K H v r ∧ (k, r.2) ∈ absT T ∧ r.2.length = 5 := by
  cases hv : valV kvs (kkey k) with
  | none => have := (tab_val h).2 hv; rw [hk] at this; cases this
  | some v =>
    obtain ⟨j, r, h1, h2⟩ := (tab_val h).1 v hv
    have hm : (k, r.2) ∈ absT T := List.mem_map.mpr ⟨_, List.mem_of_getElem? h1, rfl⟩
    exact ⟨v, j, r, rfl, h1, h2, hm, tok.five _ hm⟩
theorem told_free : ∀ y ∈ ([("thing", .local), ("field", .free), ("rank_of", .globalImplicit)] : List (Str × NameKind)), y.2 = .free → (defScope s_Listing_told).names.lookup y.1 = some .cell ∨ (defScope s_Listing_told).names.lookup y.1 = some .free := by decide +kernel
theorem mem_vds {H : Hp} {vs : List V} {ths : List Th} (h : Paired (ThAt K H) vs ths) {b : VD} (hb : b ∈ vds vs ths) : ∃ th ∈ ths, ThAt K H b.1 th ∧ b.2 = th.mark := by
  obtain ⟨p, hp, rfl⟩ := List.mem_map.mp hb
  exact ⟨p.2, (List.of_mem_zip hp).2, (prd_zip h).2.2 p hp, rfl⟩
def sp_Listing_told (K : PySem.W.Frag) : Sp := fun vs H Q _ => ∃ (p : Addr) (t : ATab) (k : LKey) (i : Nat) (f : Str) (U : List Ent), vs = [.ref p, .str k.1, .int k.2, .str f] ∧ LisAt K H p t ∧ FLD[i]? = some f ∧ UOk U ∧ TabOk U t ∧ hasK t k = true ∧ Tabs (TT K) H ∧
  ∀ r H', ExtN H H' → Tabs (TT K) H' → (∀ b o, H b = some o → (∀ ps, o ≠ .tbl ps) → b ≠ r) → (∃ vs, H' r = some (.lst vs) ∧ Paired (ThAt K H') vs (sortTh (look t k i))) → Q (.ref r) H'
theorem ok_Listing_told (T : Txt K mg) (TB : TabB base mg (tC' K) (tP K)) : C8.Met P w K mg base 5 (He.ga K "Listing") "told" (sp_Listing_told K) [] := by
  obtain ⟨fd, F⟩ := T.d_Listing_told
  refine met_ofC (p := tDef) rfl T.c_Listing T.t_Listing_told F (fun _ _ _ _ _ _ us hl => match us, hl with | [_, _, _, _], _ => rfl) sc_Listing_told (fun vs H Q E h => ?_) fun A outer s H vs Q E hr h => ?_
  · obtain ⟨p, t, k, i, f, U, rfl, _⟩ := h
    rfl
  · have hu := hu_of hr
    have hu64 := hr.units
    obtain ⟨p, t, k, i, f, U, rfl, ⟨dx, d, kvs, T1, hins, hdic, htab, rfl⟩, hf, uo, tok, hk, hT, hq⟩ := h
    refine ⟨_, (pss_cons (ps_set (i := 4) sc_Listing_told.nd rfl (by first | exact Or.inl rfl | exact Or.inr rfl) (pe_dget1 hu (pe_fld (pv 0) rfl) (pe_tup (pa_cons (pv 1) (pa_cons (pv 2) pa_nil))) ⟨by rfl, by rfl, by rfl, by rfl⟩))
    (pss_cons (ps_if (pt_cmpR op_isN (pv 4) pe_non (nomark _)) (pss_one (ps_ret (pe_lst pa_nil))) pss_nil)
    (pss_one (ps_ret (pe_sortLam (T := TT K) (c := tC' K) (P := tP K) (N := ["thing", "field"]) (fr := ["field"]) (px := "thing") (js := [3]) (k := 1) (tb := tCall (sp_rank_of K) [] C8.E0 (tCons (tVar 1) (tCons (tVar 0) tNil))) (by rfl) T.f_sorted TB rfl (List.mem_singleton.mpr rfl) (fun q hq _ => by rw [List.mem_singleton.mp hq]; rfl) hr (by rfl) (fun _ _ _ _ _ _ => rfl)
      (nscope_by (by decide +kernel)) (fun y hy e => told_free y hy e) (by decide +kernel) rfl (pe_dget hu (pv 4) (pv 3) (fun _ _ => rfl)) (fun F f A outer s H hF hr' => ?_)))))), ?_⟩
    · cases F
      cases hF
      exact C8.pe_c (ok_rank_of T) hr' (by decide) rfl (pa_cons (pv 1) (pa_cons (pv 0) pa_nil))
    · obtain ⟨v, j, r, hv, hj, ⟨kk, rfl, hkk, h5, hrow⟩, hmem, h5'⟩ := lis_row htab tok hk
      obtain ⟨l, hl⟩ : ∃ l, r.1[i]? = some l := ⟨_, List.getElem?_eq_getElem (by rw [h5]; exact (List.getElem?_eq_some_iff.mp hf).1)⟩
      obtain ⟨ths, hths, vs, hvs, hvp⟩ := prd_get hrow hl
      have ok : ∀ th ∈ ths, Th.ok i th := fun th ht => tok.okT uo hmem hths ht
      refine ⟨_, rfl, p, _, dx, _, _, rfl, hins, T.c_Listing, T.n_Listing_things, rfl, d, rfl, .inr ⟨kvs, hdic⟩, ?_⟩
      refine ⟨_, rfl, _, rfl, ⟨by show 2 ≤ sizeLine; decide, fun a ha => ?_⟩⟩
      have e1 : Ext H (upd H a (.tup (kvals k))) := Ext.upd ha
      refine ⟨some (.ref kk), .inr ⟨kvs, kkey k, a, rd_ext e1 hdic, rfl, upd_same, hv.symm⟩, ?_⟩
      refine ⟨_, rfl, rfl, _, rfl, if_decF (fun z => nomatch z) ?_⟩
      refine next_ok ?_
      dsimp only
      have hvs1 := e1 _ _ hvs
      have hvp1 : Paired (ThAt K (upd H a (.tup (kvals k)))) vs ths := prd_mono (fun _ _ z => z.imm (Imm.of e1)) hvp
      refine ⟨_, rfl, _, rfl, kk, .ref l, rfl, .inl ⟨rowK r.1, .inr f, .inl (e1 _ _ hkk), rfl, (rowK_get h5 hf hl).symm⟩, l, vds vs ths, rfl, ?_, ?_, ?_, ?_, ?_, ?_, ?_⟩
      · rw [vds_fst hvp1]; exact SqL.of hvs1
      · rw [vds_snd hvp1]; exact all_th ok
      · rw [vds_snd hvp1]; exact sort_ok_th ok
      · intro b hb
        obtain ⟨th, _, _, e⟩ := mem_vds hvp1 hb
        rw [e]
        exact Nat.le_trans (depth_th th) (by decide)
      · exact hT.ext e1
      · intro H2 b e2 hb
        obtain ⟨th, hth, hat, e⟩ := mem_vds hvp1 hb
        refine ⟨_, rfl, _, rfl, f, i, b.1, th, rfl, hf, hat.imm (ExtN.imm e2), ok th hth, fun kv H' e3 dp => ⟨e3, ?_⟩⟩
        rw [e]
        exact dp
      · intro p' H2 H' e2 T2 hp' e3 hr'
        refine hq p' H' (((ExtN.of e1).trans e2).trans (ExtN.of e3)) (T2.ext e3) (fun b o hb ho e => ?_) ⟨_, hr', ?_⟩
        · have := e2 b o (e1 _ _ hb) ho
          rw [e, hp'] at this
          cases this
        · rw [look_of tok.nod hmem hths]
          exact prd_mono (fun _ _ z => z.imm (ExtN.imm (e2.trans (ExtN.of e3)))) (srt_th hvp1)
end
end TW
set_option Elab.async false
set_option linter.all false
set_option maxRecDepth 100000
set_option maxHeartbeats 4000000
namespace TW
open PySem PySem.Spec PyProof.Rows L2 LamX
section
variable {K : PySem.W.Frag} {H H' : Hp} {p d : Addr} {t : ATab} {u0 w : HO} {T : Tab} {kvs kvs0 : List (List Key × V)}
/-- a listing at p, its dict not locked -/
def LisU (K : PySem.W.Frag) (H : Hp) (p : Addr) (t : ATab) : Prop := ∃ dx d kvs T, H p = some (.ins (cListing K) dx [("things", .ref d)]) ∧ H d = some (.dT kvs) ∧ TabAt K H kvs T ∧ absT T = t
theorem LisU.at_ (h : LisU K H p t) : LisAt K H p t := let ⟨dx, d, kvs, T, h1, h2, h3, h4⟩ := h; ⟨dx, d, kvs, T, h1, .inl h2, h3, h4⟩
theorem LB.lisU {B : Hp} (h : LB K B H p d T) : LisU K H p (absT T) := by
  obtain ⟨dx, h1⟩ := h.ins
  obtain ⟨kvs, h2, h3⟩ := h.dic
  exact ⟨dx, d, kvs, T, h1, h2, h3, rfl⟩
theorem LisU.ext (e : Ext H H') (h : LisU K H p t) : LisU K H' p t :=
  let ⟨dx, d, kvs, T, h1, h2, h3, h4⟩ := h; ⟨dx, d, kvs, T, e _ _ h1, e _ _ h2, h3.ext e, h4⟩
theorem ListAt.extN {l : Addr} {ths : List Th} (e : ExtN H H') (h : ListAt K H l ths) : ListAt K H' l ths := let ⟨vs, h1, h2⟩ := h; ⟨vs, e _ _ h1 (fun _ z => nomatch z), prd_mono (fun _ _ q => q.imm (ExtN.imm e)) h2⟩
theorem RowAt.extN {v : V} {r : Row} (e : ExtN H H') (h : RowAt K H v r) : RowAt K H' v r := let ⟨k, h1, h2, h3, h4⟩ := h; ⟨k, h1, e _ _ h2 (fun _ z => nomatch z), h3, prd_mono (fun _ _ q => q.extN e) h4⟩
theorem TabAt.extN (e : ExtN H H') (h : TabAt K H kvs T) : TabAt K H' kvs T := prd_mono (fun _ _ q => ⟨q.1, q.2.extN e⟩) h
theorem LisU.extN (e : ExtN H H') (h : LisU K H p t) : LisU K H' p t :=
  let ⟨dx, d, kvs, T, h1, h2, h3, h4⟩ := h; ⟨dx, d, kvs, T, e _ _ h1 (fun _ z => nomatch z), e _ _ h2 (fun _ z => nomatch z), h3.extN e, h4⟩
theorem ext_frz (hd : H d = some u0) (e : Ext (upd H d w) H') : Ext H (upd H' d u0) := fun b o hb => by
  by_cases h : b = d
  · subst h; rw [upd_same]; rw [hb] at hd; exact hd.symm ▸ rfl
  · rw [upd_ne h]; exact e b o (by rw [upd_ne h]; exact hb)
theorem extN_frz (hd : H d = some u0) (hw : ∀ ps, w ≠ .tbl ps) (e : ExtN (upd H d w) H') : ExtN H (upd H' d u0) := fun b o hb hn => by
  by_cases h : b = d
  · subst h; rw [upd_same]; rw [hb] at hd; exact hd.symm ▸ rfl
  · rw [upd_ne h]; exact e b o (by rw [upd_ne h]; exact hb) hn
theorem imm_frz (hd : H d = some (.dT kvs0)) : Imm H (upd H d w) := Imm.upd fun o' h => by rw [hd] at h; rw [← Option.some.inj h]; rfl
theorem TabAt.frz (hd : H d = some (.dT kvs0)) (h : TabAt K H kvs T) : TabAt K (upd H d w) kvs T := prd_mono (fun kv t q => ⟨q.1, by
  obtain ⟨k, h1, h2, h3, h4⟩ := q.2
  refine ⟨k, h1, ?_, h3, prd_mono (fun l ths ⟨vs, g1, g2⟩ => ⟨vs, ?_, prd_mono (fun _ _ z => z.imm (imm_frz hd)) g2⟩) h4⟩
  · rw [upd_ne (ne_of h2 hd fun z => nomatch z)]; exact h2
  · rw [upd_ne (ne_of g1 hd fun z => nomatch z)]; exact g1⟩) h
theorem LisAt.frz {d0 : Addr} {od : Obj} (hd : H d0 = some (.dT kvs0)) (h : LisAt K H p t) : LisAt K (upd H d0 (.frz od (.dT kvs0))) p t := by
  obtain ⟨dx, d, kvs, T, h1, h2, h3, h4⟩ := h
  refine ⟨dx, d, kvs, T, by rw [upd_ne (ne_of h1 hd fun z => nomatch z)]; exact h1, ?_, h3.frz hd, h4⟩
  by_cases e : d = d0
  · subst e
    rcases h2 with h2 | ⟨o, h2⟩
    · rw [hd] at h2
      injection h2 with h2
      injection h2 with h2
      subst h2
      exact .inr ⟨od, upd_same⟩
    · rw [hd] at h2; cases h2
  · rcases h2 with h2 | ⟨o, h2⟩
    · exact .inl (by rw [upd_ne e]; exact h2)
    · exact .inr ⟨o, by rw [upd_ne e]; exact h2⟩
/-- the list of a field in a row -/
theorem row_list {v : V} {r : Row} {i : Nat} {f : Str} (h : RowAt K H v r) (hf : FLD[i]? = some f) : ∃ (kk l : Addr) (ths : List Th) (vs : List V), v = .ref kk ∧ r.2[i]? = some ths ∧ H l = some (.lst vs) ∧ Paired (ThAt K H) vs ths ∧ DGet H kk (.str f) (some (.ref l)) := by
  obtain ⟨kk, rfl, hkk, h5, hrow⟩ := h
  obtain ⟨l, hl⟩ : ∃ l, r.1[i]? = some l := ⟨_, List.getElem?_eq_getElem (by rw [h5]; exact (List.getElem?_eq_some_iff.mp hf).1)⟩
  obtain ⟨ths, hths, vs, hvs, hvp⟩ := prd_get hrow hl
  exact ⟨kk, l, ths, vs, rfl, hths, hvs, hvp, .inl ⟨rowK r.1, .inr f, .inl hkk, rfl, (rowK_get h5 hf hl).symm⟩⟩
/-- the i-th key of a table -/
theorem tab_at {i : Nat} {k : List Key} {v : V} (h : TabAt K H kvs T) (hi : kvs[i]? = some (k, v)) : ∃ (key : LKey) (r : Row), T[i]? = some (key, r) ∧ k = kkey key ∧ RowAt K H v r ∧ (absT T)[i]? = some (key, r.2) := by
  obtain ⟨⟨key, r⟩, h1, h2, h3⟩ := prd_get h hi
  exact ⟨key, r, h1, h2, h3, by unfold absT; rw [List.getElem?_map, h1]; rfl⟩
theorem tab_len (h : TabAt K H kvs T) : (absT T).length = kvs.length := by rw [prd_len h]; unfold absT; rw [List.length_map]
/-- reading the table at a key -/
theorem tab_dget {i : Nat} {key : LKey} {r : Row} {q : Addr} {U : List Ent} (h : TabAt K H kvs T) (tok : TabOk U (absT T)) (hT : T[i]? = some (key, r)) (hd : Rd H d (.dT kvs)) (hq : H q = some (.tup (kvals key))) : ∃ v, DGet H d (.ref q) (some v) ∧ RowAt K H v r := by
  have hm : (key, r.2) ∈ absT T := List.mem_map.mpr ⟨_, List.mem_of_getElem? hT, rfl⟩
  obtain ⟨v, j, r', hv, hj, hr, _⟩ := lis_row h tok (k := key) (hasK_iff.mpr ⟨_, hm, rfl⟩)
  have e : i = j := by
    have nd := tok.nod
    unfold absT at nd
    rw [List.map_map] at nd
    have hi := (List.getElem?_eq_some_iff.mp hT).1
    have a1 : (T.map ((fun x : LKey × List (List Th) => x.1) ∘ fun t : LKey × Row => (t.1, t.2.2)))[i]? = some key := by rw [List.getElem?_map, hT]; rfl
    have a2 : (T.map ((fun x : LKey × List (List Th) => x.1) ∘ fun t : LKey × Row => (t.1, t.2.2)))[j]? = some key := by rw [List.getElem?_map, hj]; rfl
    exact (List.getElem?_inj (by rw [List.length_map]; exact hi) nd).mp (a1.trans a2.symm)
  subst e
  rw [hT] at hj
  injection hj with hj
  injection hj with _ hj
  subst hj
  exact ⟨v, .inr ⟨kvs, kkey key, q, hd, rfl, hq, hv.symm⟩, hr⟩
end
/-! ### pieces -/
def pieceRow (r : LKey × List (List Th)) (j : Nat) : List Ent := noneE r.1 :: (List.range j).flatMap fun i => ((r.2[i]?).getD []).map (aloneE r.1 i)
def piecesOf (t : ATab) : List Ent := t.flatMap fun r => pieceRow r 5
theorem len_flat {α β : Type} {f : α → List β} {c : Nat} : ∀ {l : List α}, (∀ x ∈ l, (f x).length ≤ c) → (l.flatMap f).length ≤ l.length * c
  | [], _ => by simp
  | x :: l, h => by
    rw [List.flatMap_cons, List.length_append, List.length_cons, Nat.succ_mul]
    have := len_flat (l := l) fun y hy => h y (List.mem_cons_of_mem _ hy)
    have := h x List.mem_cons_self
    omega
section
variable {U : List Ent} {t : ATab}
theorem pieceRow_len (tok : TabOk U t) (uo : UOk U) {r : LKey × List (List Th)} (hr : r ∈ t) {j : Nat} (hj : j ≤ 5) : (pieceRow r j).length ≤ 5001 := by
  unfold pieceRow
  rw [List.length_cons]
  have := len_flat (c := 1000) (l := List.range j) (f := fun i => ((r.2[i]?).getD []).map (aloneE r.1 i)) fun i _ => by
    rw [List.length_map]
    cases h : r.2[i]? with
    | none => exact Nat.zero_le _
    | some ths => exact tok.lenT uo hr h
  rw [List.length_range] at this
  omega
theorem pieces_len (tok : TabOk U t) (uo : UOk U) {i : Nat} : ((t.take i).flatMap fun r => pieceRow r 5).length ≤ 5001000 := by
  have h1 := len_flat (c := 5001) (l := t.take i) (f := fun r => pieceRow r 5) fun r hr => pieceRow_len tok uo (List.mem_of_mem_take hr) (Nat.le_refl _)
  have h2 := tok.len uo
  have h3 : (t.take i).length ≤ 1000 := by rw [List.length_take]; omega
  have : (t.take i).length * 5001 ≤ 1000 * 5001 := Nat.mul_le_mul_right _ h3
  omega
theorem pieces_mem (tok : TabOk U t) (uo : UOk U) {e : Ent} (h : e ∈ piecesOf t) : e ∈ U := by
  obtain ⟨r, hr, h⟩ := List.mem_flatMap.mp h
  rcases List.mem_cons.mp h with rfl | h
  · obtain ⟨e', he', hk⟩ := tok.key r hr
    rw [← hk]
    exact uo.cn e' he'
  · obtain ⟨i, _, h⟩ := List.mem_flatMap.mp h
    obtain ⟨th, hth, rfl⟩ := List.mem_map.mp h
    cases hi : r.2[i]? with
    | none => rw [hi] at hth; cases hth
    | some ths =>
      rw [hi] at hth
      obtain ⟨e', he', hk, h'⟩ := tok.src r hr i ths hi th hth
      rw [← hk]
      exact uo.ca e' he' i th h'
theorem pieceRow_succ (r : LKey × List (List Th)) (j : Nat) : pieceRow r (j + 1) = pieceRow r j ++ ((r.2[j]?).getD []).map (aloneE r.1 j) := by
  unfold pieceRow
  rw [List.range_succ, List.flatMap_append, List.cons_append, List.flatMap_singleton]
theorem flat_take {α β : Type} {f : α → List β} {l : List α} {i : Nat} {x : α} (h : l[i]? = some x) : (l.take (i + 1)).flatMap f = (l.take i).flatMap f ++ f x := by
  rw [List.take_add_one, h, Option.toList_some, List.flatMap_append, List.flatMap_singleton]
end
end TW
namespace TW
open PySem PySem.Spec PyProof.Rows L2 LamX
theorem prd_app {α β : Type} {R : α → β → Prop} : ∀ {xs xs' : List α} {ys ys' : List β}, Paired R xs ys → Paired R xs' ys' → Paired R (xs ++ xs') (ys ++ ys')
  | _, _, _, _, .nil, h => h
  | _, _, _, _, .cons a t, h => .cons a (prd_app t h)
theorem prd_ix {α β : Type} {R : α → β → Prop} : ∀ {xs : List α} {ys : List β}, xs.length = ys.length → (∀ (i : Nat) (x : α) (y : β), xs[i]? = some x → ys[i]? = some y → R x y) → Paired R xs ys
  | [], [], _, _ => .nil
  | x :: xs, y :: ys, h, q => .cons (q 0 x y rfl rfl) (prd_ix (by simpa using h) fun i a b h1 h2 => q (i + 1) a b h1 h2)
  | [], _ :: _, h, _ => by simp at h
  | _ :: _, [], h, _ => by simp at h
theorem prd_map2 {α β γ : Type} {R : β → γ → Prop} {f : α → β} {g : α → γ} : ∀ {l : List α}, (∀ x ∈ l, R (f x) (g x)) → Paired R (l.map f) (l.map g)
  | [], _ => .nil
  | x :: l, h => .cons (h x List.mem_cons_self) (prd_map2 fun y hy => h y (List.mem_cons_of_mem _ hy))
theorem ent_imm {K : PySem.W.Frag} {H H' : Hp} {ws : List V} {es : List Ent} (e : Imm H H') (h : Paired (EntAt K H) ws es) : Paired (EntAt K H') ws es := prd_mono (fun _ _ q => q.imm e) h
theorem imm_lst {H : Hp} {a : Addr} {ws : List V} {o : HO} (h : H a = some (.lst ws)) : Imm H (upd H a o) := Imm.upd fun o' e => by rw [h] at e; rw [← Option.some.inj e]; rfl
end TW
set_option Elab.async false
set_option linter.all false
set_option maxRecDepth 100000
set_option maxHeartbeats 4000000
namespace TW
open PySem PySem.Spec PyProof.Rows L2
section
variable {P : Program} {w : World} {K : PySem.W.Frag} {mg : Str → Option Value} {base : Heap}
def sp_Listing_pieces (K : PySem.W.Frag) : Sp := fun vs H Q _ => ∃ p t U, vs = [.ref p] ∧ LisU K H p t ∧ UOk U ∧ TabOk U t ∧ ∀ a H' ws, Ext H H' → H a = none → H' a = some (.lst ws) → Paired (EntAt K H') ws (piecesOf t) → Q (.ref a) H'
theorem ok_Listing_pieces (T : Txt K mg) : C8.Met P w K mg base 4 (He.ga K "Listing") "pieces" (sp_Listing_pieces K) [] := by
  obtain ⟨fd, F⟩ := T.d_Listing_pieces
  refine met_of T.c_Listing T.t_Listing_pieces F (fun _ _ _ _ _ _ us hl => match us, hl with | [_], _ => rfl) sc_Listing_pieces (fun vs H Q E h => ?_) fun cdv A outer s H vs Q E hr h => ?_
  · obtain ⟨p, t, U, rfl, ⟨dx, d, kvs, T1, hins, hdic, htab, rfl⟩, uo, tok, hq⟩ := h
    rfl
  · have hu := hu_of hr
    have hu64 := hr.units
    obtain ⟨p, t, U, rfl, ⟨dx, d, kvs, T1, hins, hdic, htab, rfl⟩, uo, tok, hq⟩ := h
    refine ⟨_, (pss_cons (ps_set (i := 1) sc_Listing_pieces.nd rfl (by first | exact Or.inl rfl | exact Or.inr rfl) (pe_lst pa_nil))
    (pss_cons (ps_lock (ps_for PassesOwn.never rfl (pi_keys (pe_fld (pv 0) rfl)) (pg_name (i := 2) sc_Listing_pieces.nd rfl (by first | exact Or.inl rfl | exact Or.inr rfl))
    (pss_cons (ps_expr (pe_bm PySem.F.plainAttrs_list PySem.F.slot_list_append PySem.F.type_list_append mt_append (pv 1) (pa_cons (pe_op op_catA (pv 2) (pe_op op_repT (pe_tup (pa_cons pe_non pa_nil)) (pe_callB call_len (by rfl) T.f_len (by decide +kernel) (pa_cons (pe_glob (v := .ref (He.ga K "FIELDS")) rfl T.g_FIELDS rfl) pa_nil)))) pa_nil)))
    (pss_one (ps_for PassesOwn.never rfl (pi_tup (pe_glob (v := .ref (He.ga K "FIELDS")) rfl T.g_FIELDS rfl)) (pg_name (i := 3) sc_Listing_pieces.nd rfl (by first | exact Or.inl rfl | exact Or.inr rfl))
    (pss_one (ps_expr (pe_bm PySem.F.plainAttrs_list PySem.F.slot_list_extend PySem.F.type_list_extend mt_extend (pv 1) (pa_cons (pe_lc (own := [("thing", 4)]) (by rfl) sc_Listing_pieces.nd (pi_list (pe_dget hu (pe_dget hu (pe_fld (pv 0) rfl) (pv 2) (fun _ _ => rfl)) (pv 3) (fun _ _ => rfl))) (blkOk_by (N := N_Listing_pieces) (sc := defScope s_Listing_pieces) (by decide +kernel)) (fun _ _ _ _ _ => (pg_name (i := 4) sc_Listing_pieces.nd rfl (by first | exact Or.inl rfl | exact Or.inr rfl))) (fun _ _ _ _ _ => by exact pts_nil) (fun _ _ _ _ _ => by exact (C8.pe_c (ok_told_alone T) hr (by decide) rfl (pa_cons (pv 2) (pa_cons (pv 3) (pa_cons (pv 4) pa_nil)))))) pa_nil)))))))))
    (pss_one (ps_ret (pv 1))))), ?_⟩
    refine ⟨by show 0 ≤ sizeLine; decide, fun a ha => ?_⟩
    refine next_ok ?_
    dsimp only
    have had : a ≠ d := (ne_of_none hdic ha).symm
    have hap : a ≠ p := (ne_of_none hins ha).symm
    generalize hH1 : upd H a (.lst []) = H1
    have e1 : Ext H H1 := by rw [← hH1]; exact Ext.upd ha
    have ha1 : H1 a = some (.lst []) := by rw [← hH1]; exact upd_same
    refine ⟨d, .dT kvs, e1 _ _ hdic, True.intro, fun od => ?_⟩
    have hb0 : upd H d (.frz od (.dT kvs)) a = none := by rw [upd_ne had]; exact ha
    have e2 : Ext (upd H d (.frz od (.dT kvs))) (upd H1 d (.frz od (.dT kvs))) := by
      rw [← hH1]
      intro b o hb
      by_cases h : b = d
      · subst h; rw [upd_same] at hb ⊢; exact hb
      · rw [upd_ne h] at hb ⊢; exact Ext.upd ha b o hb
    have htab2 : ∀ {H'}, Ext (upd H d (.frz od (.dT kvs))) H' → TabAt K H' kvs T1 := fun e => (htab.frz hdic).ext e
    have hins2 : ∀ {H'}, Ext (upd H d (.frz od (.dT kvs))) H' → H' p = some (.ins (cListing K) dx [("things", .ref d)]) := fun e => e _ _ (by rw [upd_ne (ne_of hins hdic fun z => nomatch z)]; exact hins)
    have hdd : ∀ {H'}, Ext (upd H d (.frz od (.dT kvs))) H' → H' d = some (.frz od (.dT kvs)) := fun e => e _ _ upd_same
    refine ⟨_, rfl, p, _, dx, _, _, rfl, hins2 e2, T.c_Listing, T.n_Listing_things, rfl, d, od, rfl, .inr ⟨kvs, hdd e2, ?_⟩⟩
    refine for_src src_keysT (fun i σ H' => (∃ s2 s3 s4, σ = [some (.ref p), some (.ref a), s2, s3, s4]) ∧ Ext (upd H d (.frz od (.dT kvs))) H' ∧ ∃ ws, H' a = some (.lst ws) ∧ Paired (EntAt K H') ws (((absT T1).take i).flatMap fun r => pieceRow r 5)) ⟨⟨_, _, _, rfl⟩, e2, [], by rw [upd_ne had]; exact ha1, .nil⟩ (fun i σ H' _ h => hdd h.2.1) (fun i x σ H3 H4 hi h hy => ?_) fun σ H' h => ?_
    · obtain ⟨rfl, k, v, q, hkv, rfl, hqk⟩ := hy
      obtain ⟨⟨s2, s3, s4, rfl⟩, e3, ws, hws, hwp⟩ := h
      obtain ⟨key, r, hT, rfl, -, hab⟩ := tab_at htab hkv
      have hr0 : (key, r.2) ∈ absT T1 := List.mem_of_getElem? hab
      have hl0 : ws.length ≤ 5001000 := by rw [prd_len hwp]; exact pieces_len tok uo
      dsimp only
      refine ⟨_, rfl, .inl ⟨rfl, ws, SqL.of hws⟩, _, rfl, by show 1 ≤ sizeLine; decide, fun t1 ht1 => ?_⟩
      refine ⟨_, 5, rfl, .inr ⟨_, T.fields _, rfl⟩, t1, 5, [.non], rfl, rfl, SqT.of upd_same, (fun z => nomatch z), by decide, by decide, by decide, fun b hb => ?_⟩
      have e4 : Ext H4 (upd (upd H4 t1 (.tup [.non])) b (.tup (List.replicate 5 [V.non]).flatten)) := (Ext.upd ht1).trans (Ext.upd hb)
      refine ⟨q, b, kvals key, _, rfl, rfl, SqT.of (e4 _ _ hqk), SqT.of upd_same, (by show 2 + 5 ≤ sizeLine; decide), (fun z => nomatch z), (fun _ z => nomatch z), fun _ _ c hc => ?_⟩
      generalize hH5 : upd _ c _ = H5
      have e5 : Ext H4 H5 := by rw [← hH5]; exact e4.trans (Ext.upd hc)
      have hc5 : H5 c = some (.tup (kvals key ++ List.replicate 5 .non)) := by rw [← hH5]; exact upd_same
      refine ⟨a, ws, _, rfl, rfl, e5 _ _ hws, Nat.lt_of_le_of_lt hl0 (by decide), ?_⟩
      have hqa : q ≠ a := ne_of hqk hws fun z => nomatch z
      have nn : Paired (OThAt K (upd H5 a (.lst (ws ++ [.ref c])))) (List.replicate 5 .non) (noneE key).th := .cons rfl (.cons rfl (.cons rfl (.cons rfl (.cons rfl .nil))))
      have hca : c ≠ a := ne_of hc5 (e5 _ _ hws) fun z => nomatch z
      refine next_ok ?_
      dsimp only
      refine ⟨_, rfl, ⟨_, T.fields _⟩, ?_⟩
      refine for_src (src_tup (xs := [.str "code", .str "title", .str "players", .str "day", .str "length"])) (fun j σ H' => (∃ s3 s4, σ = [some (.ref p), some (.ref a), some (.ref q), s3, s4]) ∧ Ext (upd H d (.frz od (.dT kvs))) H' ∧ H' q = some (.tup (kvals key)) ∧ ∃ ws, H' a = some (.lst ws) ∧ Paired (EntAt K H') ws ((((absT T1).take i).flatMap fun r => pieceRow r 5) ++ pieceRow (key, r.2) j))
        ⟨⟨_, _, rfl⟩, Ext.mut (e3.trans e5) hb0, by rw [upd_ne hqa]; exact e5 _ _ hqk, _, upd_same, prd_app (ent_imm ((Imm.of e5).trans (imm_lst (e5 _ _ hws))) hwp) (.cons ⟨c, _, rfl, by rw [upd_ne hca]; exact hc5, nn⟩ .nil)⟩ (fun j σ H' _ h => T.fields _) (fun j x σ H6 H7 hj h hy => ?_) fun σ H' h => ?_
      · obtain ⟨rfl, hx⟩ := hy
        obtain ⟨⟨s5, s6, rfl⟩, e6, hq6, ws6, hws6, hwp6⟩ := h
        obtain ⟨f, rfl, hf⟩ : ∃ f : Str, x = .str f ∧ FLD[j]? = some f := by
          rcases j with _ | _ | _ | _ | _ | j
          · cases hx; exact ⟨_, rfl, rfl⟩
          · cases hx; exact ⟨_, rfl, rfl⟩
          · cases hx; exact ⟨_, rfl, rfl⟩
          · cases hx; exact ⟨_, rfl, rfl⟩
          · cases hx; exact ⟨_, rfl, rfl⟩
          · exact absurd hj (by show ¬ j + 1 + 1 + 1 + 1 + 1 < 5; omega)
        have hl6 : ws6.length ≤ 5001000 + 5001 := by
          rw [prd_len hwp6, List.length_append]
          exact Nat.add_le_add (pieces_len tok uo) (pieceRow_len tok uo hr0 (Nat.le_of_lt hj))
        obtain ⟨v1, hg1, hrow⟩ := tab_dget (htab2 e6) tok hT (.inr ⟨od, hdd e6⟩) hq6
        obtain ⟨kk, l, ths, vs, rfl, hths, hvs, hvp, hg2⟩ := row_list hrow hf
        have hlen : vs.length ≤ 1000 := by rw [prd_len hvp]; exact tok.lenT uo hr0 hths
        refine ⟨_, rfl, .inl ⟨rfl, ws6, SqL.of hws6⟩, _, rfl, p, _, dx, _, _, rfl, hins2 e6, T.c_Listing, T.n_Listing_things, rfl, _, rfl, d, .ref kk, rfl, hg1, _, rfl, kk, .ref l, rfl, hg2, l, rfl, ⟨vs, SqL.of hvs⟩, fun D hD => ?_⟩
        refine lc_map (src_list (xs := vs)) (fun _ => False) (fun m z H' => ∃ th, ths[m]? = some th ∧ EntAt K H' z (aloneE key j th)) (fun _ _ => True) hD (fun z => z) (Nat.le_trans hlen (by decide)) (fun m z H H' im ⟨th, h1, h2⟩ => ⟨th, h1, h2.imm im⟩) (fun _ _ _ h => h) True.intro (fun m H' _ k _ => SqL.of (Kp.ext k _ _ hvs)) (fun _ _ _ _ k => Imm.of (Kp.ext k)) (fun m z H8 H9 hm kp _ hy Q' qq => ?_) fun H8 zs kp hD8 hl8 hr8 _ => ?_
        · obtain ⟨rfl, hz⟩ := hy
          obtain ⟨th, hth, hat⟩ := prd_get hvp hz
          refine ⟨rfl, _, rfl, _, rfl, _, rfl, _, key, j, f, z, rfl, ⟨q, rfl, Kp.ext kp _ _ hq6⟩, hf, fun p5 H5 e5 hp5 ht5 => qq _ _ (Kp.of e5) ⟨th, hth, p5, _, rfl, ht5, ?_⟩ True.intro⟩
          show Paired (OThAt K H5) _ ((List.range 5).map fun j' => if j' = j then some th else none)
          refine prd_map2 fun m' _ => ?_
          by_cases hm' : m' = j
          · rw [if_pos hm', if_pos hm']
            exact hat.imm ((Imm.of (Kp.ext kp)).trans (Imm.of e5))
          · rw [if_neg hm', if_neg hm']
            exact rfl
        · have e8 := Kp.ext kp
          refine ⟨a, D, ws6, zs, rfl, rfl, e8 _ _ hws6, hD8, ?_, ?_⟩
          · rw [hl8]
            exact Nat.le_trans (Nat.add_le_add hl6 hlen) (by decide)
          · have hqa6 : q ≠ a := ne_of hq6 hws6 fun z => nomatch z
            refine ⟨⟨_, _, rfl⟩, Ext.mut (e6.trans e8) hb0, by rw [upd_ne hqa6]; exact e8 _ _ hq6, _, upd_same, ?_⟩
            rw [pieceRow_succ, ← List.append_assoc]
            refine prd_app (ent_imm ((Imm.of e8).trans (imm_lst (e8 _ _ hws6))) hwp6) ?_
            rw [show ((key, r.2).2[j]?).getD [] = ths by rw [hths]; rfl]
            refine ent_imm (imm_lst (e8 _ _ hws6)) (prd_ix (by rw [hl8, List.length_map, prd_len hvp]) fun m z e h1 h2 => ?_)
            obtain ⟨th, h3, h4⟩ := hr8 m z h1
            rw [List.getElem?_map, h3] at h2
            cases h2
            exact h4
      · obtain ⟨⟨s5, s6, rfl⟩, e6, hq6, ws6, hws6, hwp6⟩ := h
        refine ⟨⟨_, _, _, rfl⟩, e6, ws6, hws6, ?_⟩
        rw [flat_take hab]
        exact hwp6
    · obtain ⟨⟨s2, s3, s4, rfl⟩, e3, ws, hws, hwp⟩ := h
      refine ⟨hdd e3, ?_⟩
      rw [show kvs.length = (absT T1).length from (tab_len htab).symm, List.take_length] at hwp
      have hda : a ≠ d := had
      exact ⟨_, rfl, hq a _ ws (ext_frz hdic e3) ha (by rw [upd_ne hda]; exact hws) (ent_imm (Imm.upd fun o' h => by rw [hdd e3] at h; rw [← Option.some.inj h]; rfl) hwp)⟩
end
end TW
set_option Elab.async false
set_option linter.all false
set_option maxRecDepth 100000
set_option maxHeartbeats 4000000
namespace TW
open PySem PySem.Spec PyProof.Rows L2
section
variable {P : Program} {w : World} {K : PySem.W.Frag} {mg : Str → Option Value} {base : Heap}

def sureOf : List Th → Option Th
  | [x] => some x
  | _ => none
/-- reading a listing's table at a key -/
theorem lis_dget {H : Hp} {d q : Addr} {U : List Ent} {kvs : List (List Key × V)} {T : Tab} {k : LKey} (h : TabAt K H kvs T) (tok : TabOk U (absT T)) (hk : hasK (absT T) k = true) (hd : Rd H d (.dT kvs)) (hq : H q = some (.tup (kvals k))) :
    ∃ (v : V) (r : Row), DGet H d (.ref q) (some v) ∧ RowAt K H v r ∧ (k, r.2) ∈ absT T := by
  obtain ⟨v, j, r, hv, hj, hr, hm, _⟩ := lis_row h tok hk
  exact ⟨v, r, .inr ⟨kvs, kkey k, q, hd, rfl, hq, hv.symm⟩, hr, hm⟩
def sp_Listing_sure (K : PySem.W.Frag) : Sp := fun vs H Q _ => ∃ p t v k i f U, vs = [.ref p, v, .str f] ∧ LisAt K H p t ∧ KeyAt H v k ∧ FLD[i]? = some f ∧ UOk U ∧ TabOk U t ∧ hasK t k = true ∧ ∀ x, OThAt K H x (sureOf (look t k i)) → Q x H
theorem ok_Listing_sure (T : Txt K mg) : C8.Met P w K mg base 1 (He.ga K "Listing") "sure" (sp_Listing_sure K) [] := by
  obtain ⟨fd, F⟩ := T.d_Listing_sure
  refine met_of T.c_Listing T.t_Listing_sure F (fun _ _ _ _ _ _ us hl => match us, hl with | [_, _, _], _ => rfl) sc_Listing_sure (fun vs H Q E h => ?_) fun cdv A outer s H vs Q E hr h => ?_
  · obtain ⟨p, t, v, k, i, f, U, rfl, ⟨dx, d, kvs, T1, hins, hdic, htab, rfl⟩, ⟨q, rfl, hq⟩, hf, uo, tok, hk, hq'⟩ := h
    rfl
  · have hu := hu_of hr
    have hu64 := hr.units
    obtain ⟨p, t, v, k, i, f, U, rfl, ⟨dx, d, kvs, T1, hins, hdic, htab, rfl⟩, ⟨q, rfl, hq⟩, hf, uo, tok, hk, hq'⟩ := h
    refine ⟨_, (pss_cons (ps_set (i := 3) sc_Listing_sure.nd rfl (by first | exact Or.inl rfl | exact Or.inr rfl) (pe_dget hu (pe_dget hu (pe_fld (pv 0) rfl) (pv 1) (fun _ _ => rfl)) (pv 2) (fun _ _ => rfl)))
    (pss_one (ps_ret (pe_ifExp (pt_cmpR op_eq (pe_callB call_len (by rfl) T.f_len (by decide +kernel) (pa_cons (pv 3) pa_nil)) pe_int (nomark _)) (pe_ix ix_list (pv 3) pe_int (fun _ _ => rfl)) pe_non)))), ?_⟩
    obtain ⟨v1, r, hg1, hrow, hm⟩ := lis_dget htab tok hk hdic hq
    obtain ⟨kk, l, ths, ws, rfl, hths, hvs, hvp, hg2⟩ := row_list hrow hf
    rw [look_of tok.nod hm hths] at hq'
    refine ⟨_, rfl, p, _, dx, _, _, rfl, hins, T.c_Listing, T.n_Listing_things, rfl, _, rfl, d, .ref kk, rfl, hg1, _, rfl, kk, .ref l, rfl, hg2, ?_⟩
    refine next_ok ?_
    dsimp only
    refine ⟨_, rfl, _, ws.length, rfl, .inl ⟨ws, SqL.of hvs, rfl⟩, rfl, _, rfl, ?_⟩
    cases hvp with
    | nil => exact if_decF (by decide) (hq' _ rfl)
    | cons a t => cases t with
      | nil => exact if_decT rfl ⟨_, rfl, l, _, 0, _, rfl, rfl, SqL.of hvs, rfl, hq' _ a⟩
      | cons b t =>
        refine if_decF (fun z => ?_) (hq' _ rfl)
        simp at z
        omega
def sp_Listing_len (K : PySem.W.Frag) : Sp := fun vs H Q _ => ∃ p t, vs = [.ref p] ∧ LisU K H p t ∧ Q (.int (t.length : Nat)) H
theorem ok_Listing_len (T : Txt K mg) : C8.Met P w K mg base 1 (He.ga K "Listing") "__len__" (sp_Listing_len K) [] := by
  obtain ⟨fd, F⟩ := T.d_Listing_len
  refine met_of T.c_Listing T.t_Listing_len F (fun _ _ _ _ _ _ us hl => match us, hl with | [_], _ => rfl) sc_Listing_len (fun vs H Q E h => ?_) fun cdv A outer s H vs Q E hr h => ?_
  · obtain ⟨p, t, rfl, ⟨dx, d, kvs, T1, hins, hdic, htab, rfl⟩, hq⟩ := h
    rfl
  · have hu := hu_of hr
    have hu64 := hr.units
    obtain ⟨p, t, rfl, ⟨dx, d, kvs, T1, hins, hdic, htab, rfl⟩, hq⟩ := h
    refine ⟨_, (pss_one (ps_ret (pe_callB call_len_dT (by rfl) T.f_len (by decide +kernel) (pa_cons (pe_fld (pv 0) rfl) pa_nil)))), ?_⟩
    refine ⟨_, rfl, p, _, dx, _, _, rfl, hins, T.c_Listing, T.n_Listing_things, rfl, d, kvs, rfl, hdic, ?_⟩
    rw [← tab_len htab]
    exact hq
def reprL (n : Nat) : Str := Str.empty ++ "Listing(" ++ dec n ++ ")"
def sp_Listing_repr (K : PySem.W.Frag) : Sp := fun vs H Q _ => ∃ p t, vs = [.ref p] ∧ LisU K H p t ∧ t.length ≤ 1000 ∧ Q (.str (reprL t.length)) H
theorem ok_Listing_repr (T : Txt K mg) : C8.Met P w K mg base 1 (He.ga K "Listing") "__repr__" (sp_Listing_repr K) [] := by
  obtain ⟨fd, F⟩ := T.d_Listing_repr
  refine met_of T.c_Listing T.t_Listing_repr F (fun _ _ _ _ _ _ us hl => match us, hl with | [_], _ => rfl) sc_Listing_repr (fun vs H Q E h => ?_) fun cdv A outer s H vs Q E hr h => ?_
  · obtain ⟨p, t, rfl, ⟨dx, d, kvs, T1, hins, hdic, htab, rfl⟩, hz, hq⟩ := h
    rfl
  · have hu := hu_of hr
    have hu64 := hr.units
    obtain ⟨p, t, rfl, ⟨dx, d, kvs, T1, hins, hdic, htab, rfl⟩, hz, hq⟩ := h
    refine ⟨_, (pss_one (ps_ret (pe_joined (.cons pe_str (.cons (pe_fmt (pe_callB call_len_dT (by rfl) T.f_len (by decide +kernel) (pa_cons (pe_fld (pv 0) rfl) pa_nil))) (.cons pe_str .nil)))))), ?_⟩
    have hd := dec_len (i := ((absT T1).length : Int)) (k := 4) (by omega) (by decide) (by omega)
    rw [tab_len htab] at hd hz
    have e1 : (Str.empty).length = 0 := rfl
    have e2 : (("Listing(" : Str)).length = 8 := rfl
    have e3 : ((")" : Str)).length = 1 := rfl
    unfold dec at hd
    refine ⟨_, rfl, (by rw [strLen_append]; show _ ≤ 16777216; omega), _, rfl, p, _, dx, _, _, rfl, hins, T.c_Listing, T.n_Listing_things, rfl, d, kvs, rfl, hdic, .inr ⟨_, rfl, log2_lt (k := 200) (by omega) (by decide), _, rfl, (by rw [strLen_append, strLen_append]; show _ ≤ 16777216; omega), _, rfl, (by rw [strLen_append, strLen_append, strLen_append]; show _ ≤ 16777216; omega), ?_⟩⟩
    rw [tab_len htab] at hq
    exact hq
def sp_Listing_joined (K : PySem.W.Frag) : Sp := fun vs H Q _ => ∃ p p' t t' U, vs = [.ref p, .ref p'] ∧ LisU K H p t ∧ LisU K H p' t' ∧ UOk U ∧ TabOk U t ∧ TabOk U t' ∧ ∀ r H' B d T, Ext H B → Ext H H' → LB K B H' r d T → absT T = tabOf (piecesOf t ++ piecesOf t') → Q (.ref r) H'
theorem ok_Listing_joined (T : Txt K mg) : C8.Met P w K mg base 8 (He.ga K "Listing") "joined" (sp_Listing_joined K) [] := by
  obtain ⟨fd, F⟩ := T.d_Listing_joined
  refine met_of T.c_Listing T.t_Listing_joined F (fun _ _ _ _ _ _ us hl => match us, hl with | [_, _], _ => rfl) sc_Listing_joined (fun vs H Q E h => ?_) fun cdv A outer s H vs Q E hr h => ?_
  · obtain ⟨p, p', t, t', U, rfl, h1, h2, uo, tok, tok', hq⟩ := h
    rfl
  · have hu := hu_of hr
    have hu64 := hr.units
    obtain ⟨p, p', t, t', U, rfl, h1, h2, uo, tok, tok', hq⟩ := h
    refine ⟨_, (pss_one (ps_ret (C8.pe_mk (mk_Listing_1 T) hr (by decide) rfl (pa_cons (pe_op op_cat (C8.pe_mt0 (ok_Listing_pieces T) hr (by decide) (pv 0)) (C8.pe_mt0 (ok_Listing_pieces T) hr (by decide) (pv 1))) pa_nil)))), ?_⟩
    obtain ⟨dx, d, kvs, T1, hins, _⟩ := id h1
    refine ⟨_, rfl, p, dx, _, rfl, hins, rfl, p, t, U, rfl, h1, uo, tok, fun a H1 ws e1 ha hws hwp => ?_⟩
    obtain ⟨dx', d', kvs', T1', hins', _⟩ := id h2
    refine ⟨_, rfl, p', dx', _, rfl, e1 _ _ hins', rfl, p', t', U, rfl, h2.ext e1, uo, tok', fun a' H2 ws' e2 ha' hws' hwp' => ?_⟩
    have l1 : ws.length ≤ 5001000 := by
      have := pieces_len tok uo (i := t.length)
      rw [List.take_length] at this
      rw [prd_len hwp]; exact this
    have l2 : ws'.length ≤ 5001000 := by
      have := pieces_len tok' uo (i := t'.length)
      rw [List.take_length] at this
      rw [prd_len hwp']; exact this
    refine ⟨a, a', ws, ws', rfl, rfl, e2 _ _ hws, hws', Nat.le_trans (Nat.add_le_add l1 l2) (by decide), fun b hb => ?_⟩
    intro x dx2 hx hdx hne
    have e3 : Ext H (upd H2 b (.lst (ws ++ ws'))) := (e1.trans e2).trans (Ext.upd hb)
    have e4 : Ext (upd H2 b (.lst (ws ++ ws'))) (upd (upd (upd H2 b (.lst (ws ++ ws'))) dx2 (.own x)) x (.ins (He.ga K "Listing") dx2 [])) := (Ext.upd hdx).trans (Ext.upd (by rw [upd_ne hne.symm]; exact hx))
    refine ⟨upd H2 b (.lst (ws ++ ws')), x, dx2, .ref b, piecesOf t ++ piecesOf t', U, rfl, e4, hx, upd_same, .inr ⟨b, ws ++ ws', rfl, .inl (SqL.of upd_same), ?_⟩, uo, fun e he => ?_, fun H' d3 T3 e5 lb ab => ⟨rfl, hq x H' _ d3 T3 e3 (e3.trans e5) lb ab⟩⟩
    · exact prd_app (ent_imm ((Imm.of e2).trans (Imm.of (Ext.upd hb))) hwp) (ent_imm (Imm.of (Ext.upd hb)) hwp')
    · rcases List.mem_append.mp he with h | h
      · exact pieces_mem tok uo h
      · exact pieces_mem tok' uo h
end
end TW
set_option Elab.async false
set_option linter.all false
set_option maxRecDepth 100000
set_option maxHeartbeats 4000000
namespace TW
open PySem PySem.Spec PyProof.Rows L2
section
variable {P : Program} {w : World} {K : PySem.W.Frag} {mg : Str → Option Value} {base : Heap}

def ftx (o : Option Th) : List Str := match o with | none => [] | some th => [showTh th]
theorem showE_eq (e : Ent) : showE e = Txt.join " | " (showKey e.key :: e.th.flatMap ftx) := rfl
theorem take_ftx {os : List (Option Th)} {i : Nat} {o : Option Th} (h : os[i]? = some o) : (os.take (i + 1)).flatMap ftx = (os.take i).flatMap ftx ++ ftx o := flat_take h
theorem ftx_len : ∀ {os : List (Option Th)}, (os.flatMap ftx).length ≤ os.length
  | [] => Nat.zero_le _
  | o :: os => by
    rw [List.flatMap_cons, List.length_append, List.length_cons]
    have := ftx_len (os := os)
    have : (ftx o).length ≤ 1 := by cases o <;> simp [ftx]
    omega
theorem ftx_sum {e : Ent} (ok : EntOk e) : ((showKey e.key :: e.th.flatMap ftx).map (·.length)).sum + (showKey e.key :: e.th.flatMap ftx).length * (" | " : Str).length ≤ 5000 := by
  have h1 : ∀ x ∈ showKey e.key :: e.th.flatMap ftx, x.length ≤ 410 := fun x hx => by
    rcases List.mem_cons.mp hx with rfl | hx
    · exact Nat.le_trans (showKey_len ok.key) (by decide)
    · obtain ⟨o, ho, hx⟩ := List.mem_flatMap.mp hx
      cases o with
      | none => cases hx
      | some th =>
        obtain ⟨i, hi⟩ := List.mem_iff_getElem?.mp ho
        rw [List.mem_singleton.mp hx]
        exact showTh_len (ok.each i th hi)
  have h2 := sum_le (f := fun x : Str => x.length) (c := 410) h1
  have h3 := ftx_len (os := e.th)
  have h5 := ok.five
  have h4 : (showKey e.key :: e.th.flatMap ftx).length ≤ 6 := by rw [List.length_cons]; omega
  have e3 : ((" | " : Str)).length = 3 := rfl
  rw [e3]
  have : 410 * (showKey e.key :: e.th.flatMap ftx).length ≤ 410 * 6 := Nat.mul_le_mul_left _ h4
  omega
def sp_show_entry (K : PySem.W.Frag) : Sp := fun vs H Q _ => ∃ v e, vs = [v] ∧ EntAt K H v e ∧ EntOk e ∧ ∀ H', Ext H H' → Q (.str (showE e)) H'
theorem ok_show_entry (T : Txt K mg) : C8.Cal P w K mg base 5 "show_entry" (sp_show_entry K) [] := by
  obtain ⟨fd, F⟩ := T.d_show_entry
  refine cal_of F T.g_show_entry (fun _ _ _ _ _ _ us hl => match us, hl with | [_], _ => rfl) sc_show_entry (fun vs H Q E h => ?_) fun cdv A outer s H vs Q E hr h => ?_
  · obtain ⟨v, e, rfl, ⟨a, ws, rfl, ha, hp⟩, ok, hq⟩ := h
    rfl
  · have hu := hu_of hr
    have hu64 := hr.units
    obtain ⟨v, e, rfl, ⟨a, ws, rfl, ha, hp⟩, ok, hq⟩ := h
    refine ⟨_, (pss_cons (ps_asg (pv 0) (pg_tup (by rfl) (pgs_cons (pg_name (i := 2) sc_show_entry.nd rfl (by first | exact Or.inl rfl | exact Or.inr rfl)) (pgs_cons (pg_name (i := 3) sc_show_entry.nd rfl (by first | exact Or.inl rfl | exact Or.inr rfl)) (pgs_cons (pg_name (i := 4) sc_show_entry.nd rfl (by first | exact Or.inl rfl | exact Or.inr rfl)) (pgs_cons (pg_name (i := 5) sc_show_entry.nd rfl (by first | exact Or.inl rfl | exact Or.inr rfl)) (pgs_cons (pg_name (i := 6) sc_show_entry.nd rfl (by first | exact Or.inl rfl | exact Or.inr rfl)) (pgs_cons (pg_name (i := 7) sc_show_entry.nd rfl (by first | exact Or.inl rfl | exact Or.inr rfl)) (pgs_cons (pg_name (i := 8) sc_show_entry.nd rfl (by first | exact Or.inl rfl | exact Or.inr rfl)) pgs_nil)))))))))
    (pss_cons (ps_set (i := 1) sc_show_entry.nd rfl (by first | exact Or.inl rfl | exact Or.inr rfl) (pe_lst (pa_cons (C8.pe_c (ok_show_key T) hr (by decide) rfl (pa_cons (pe_tup (pa_cons (pv 2) (pa_cons (pv 3) pa_nil))) pa_nil)) pa_nil)))
    (pss_cons (ps_if (pt_cmpR op_notN (pv 4) pe_non (nomark _)) (pss_one (ps_expr (pe_bm PySem.F.plainAttrs_list PySem.F.slot_list_append PySem.F.type_list_append mt_append (pv 1) (pa_cons (pe_op op_add_str pe_str (pv 4)) pa_nil)))) pss_nil)
    (pss_cons (ps_if (pt_cmpR op_notN (pv 5) pe_non (nomark _)) (pss_one (ps_expr (pe_bm PySem.F.plainAttrs_list PySem.F.slot_list_append PySem.F.type_list_append mt_append (pv 1) (pa_cons (pe_op op_add_str pe_str (C8.pe_c (ok_show_name T) hr (by decide) rfl (pa_cons (pv 5) pa_nil))) pa_nil)))) pss_nil)
    (pss_cons (ps_if (pt_cmpR op_notN (pv 6) pe_non (nomark _)) (pss_one (ps_expr (pe_bm PySem.F.plainAttrs_list PySem.F.slot_list_append PySem.F.type_list_append mt_append (pv 1) (pa_cons (pe_op op_add_str pe_str (pe_join pe_str (pe_lc (own := [("player", 9)]) (by rfl) sc_show_entry.nd (pi_tup (pv 6)) (blkOk_by (N := N_show_entry) (sc := defScope s_show_entry) (by decide +kernel)) (fun _ _ _ _ _ => (pg_name (i := 9) sc_show_entry.nd rfl (by first | exact Or.inl rfl | exact Or.inr rfl))) (fun _ _ _ _ _ => by exact pts_nil) (fun _ _ _ _ _ => by exact (C8.pe_c (ok_show_name T) hr (by decide) rfl (pa_cons (pv 9) pa_nil)))))) pa_nil)))) pss_nil)
    (pss_cons (ps_if (pt_cmpR op_notN (pv 7) pe_non (nomark _)) (pss_one (ps_expr (pe_bm PySem.F.plainAttrs_list PySem.F.slot_list_append PySem.F.type_list_append mt_append (pv 1) (pa_cons (pe_op op_add_str pe_str (pe_callTy (cr_strI (ok_Day_str T) (hr.mono (by decide))) (by rfl) T.f_str (by decide +kernel) (pa_cons (pv 7) pa_nil))) pa_nil)))) pss_nil)
    (pss_cons (ps_if (pt_cmpR op_notN (pv 8) pe_non (nomark _)) (pss_one (ps_expr (pe_bm PySem.F.plainAttrs_list PySem.F.slot_list_append PySem.F.type_list_append mt_append (pv 1) (pa_cons (pe_op op_add_str pe_str (pe_callTy (cr_strI (ok_Length_str T) (hr.mono (by decide))) (by rfl) T.f_str (by decide +kernel) (pa_cons (pv 8) pa_nil))) pa_nil)))) pss_nil)
    (pss_one (ps_ret (pe_join pe_str (pv 1))))))))))), ?_⟩
    obtain ⟨w0, w1, w2, w3, w4, rfl⟩ := five_of ((prd_len hp).trans ok.five)
    obtain ⟨o0, o1, o2, o3, o4, he, h0, h1, h2, h3, h4⟩ := prd5 hp
    refine ⟨_, rfl, a, _, rfl, SqT.of ha, rfl, _, _, rfl, _, _, rfl, _, _, rfl, _, _, rfl, _, _, rfl, _, _, rfl, _, _, rfl, rfl, ?_⟩
    refine next_ok ?_
    dsimp only
    refine ⟨_, rfl, _, rfl, by show 2 ≤ sizeLine; decide, fun t ht => ⟨_, e.key, rfl, ⟨t, rfl, upd_same⟩, ok.key, ⟨by show 1 ≤ sizeLine; decide, fun l hl => ?_⟩⟩⟩
    refine next_ok ?_
    dsimp only
    have hlH0 : H l = none := Ext.free (Ext.upd ht) hl
    have eH : Ext H (upd (upd H t (.tup [.str e.key.1, .int e.key.2])) l (.lst [.str (showKey e.key)])) := (Ext.upd ht).trans (Ext.upd hl)
    generalize hH1 : upd (upd H t (.tup [.str e.key.1, .int e.key.2])) l (.lst [.str (showKey e.key)]) = H' at eH
    have hlH : H' l = some (.lst ((showKey e.key :: (e.th.take 0).flatMap ftx).map V.str)) := by rw [← hH1]; exact upd_same
    refine seq_cut (fun σ H' => ∃ s9, σ = [some (.ref a), some (.ref l), some (.str e.key.1), some (.int e.key.2), some w0, some w1, some w2, some w3, some w4, s9] ∧ Ext H H' ∧ H' l = some (.lst ((showKey e.key :: (e.th.take 1).flatMap ftx).map V.str))) (fun N hN => ?_) (fun σ H' hP => ?_)
    · refine ⟨_, rfl, rfl, _, rfl, ?_⟩
      rcases oth_cases (h0.imm (Imm.of eH)) with ⟨hz, ho⟩ | ⟨th, ho, hth, hn⟩
      · refine if_ndecF hz (hN _ _ ⟨_, rfl, eH, ?_⟩)
        rw [take_ftx (by rw [he, ho]; rfl : e.th[0]? = some none)]
        rw [show ftx none = [] from rfl, List.append_nil]
        exact hlH
      · have hoi : e.th[0]? = some (some th) := by rw [he, ho]; rfl
        have tl := showTh_len (ok.each 0 th hoi)
        refine if_ndecT hn ?_
        have fin : ∀ {s9' : Option V} {H2 : Hp}, Ext H' H2 → N [some (.ref a), some (.ref l), some (.str e.key.1), some (.int e.key.2), some w0, some w1, some w2, some w3, some w4, s9'] (upd H2 l (.lst ((showKey e.key :: (e.th.take 0).flatMap ftx).map V.str ++ [V.str (showTh th)]))) := fun {s9' H2} e2 => hN _ _ ⟨_, rfl, Ext.mut (eH.trans e2) hlH0, by rw [upd_same, take_ftx hoi, ← List.cons_append, List.map_append]; rfl⟩
        have bnd : ((showKey e.key :: (e.th.take 0).flatMap ftx).map V.str).length < sizeLine := by
          rw [List.length_map, List.length_cons]
          have := ftx_len (os := e.th.take 0)
          rw [List.length_take] at this
          exact Nat.lt_of_le_of_lt (show _ ≤ 6 by have := ok.five; omega) (by decide)
        rcases th_ok (ok.each 0 th hoi) with ⟨z, rfl, -, k⟩ | ⟨t, z, rfl, x, k⟩ | ⟨pl, rfl, x, k⟩ | ⟨yy, m, d, rfl, x, k⟩ | ⟨n, rfl, x, k⟩ <;> first | cases x | skip
        have hv : w0 = .str z := hth
        subst hv
        exact ⟨_, rfl, .inl ⟨rfl, _, SqL.of hlH⟩, _, rfl, _, _, rfl, rfl, (by rw [← strLen_append]; exact Nat.le_trans tl (by decide)), l, _, _, rfl, rfl, hlH, bnd, fin Ext.rfl'⟩
    obtain ⟨s9, rfl, eH, hlH⟩ := hP
    refine seq_cut (fun σ H' => ∃ s9, σ = [some (.ref a), some (.ref l), some (.str e.key.1), some (.int e.key.2), some w0, some w1, some w2, some w3, some w4, s9] ∧ Ext H H' ∧ H' l = some (.lst ((showKey e.key :: (e.th.take 2).flatMap ftx).map V.str))) (fun N hN => ?_) (fun σ H' hP => ?_)
    · refine ⟨_, rfl, rfl, _, rfl, ?_⟩
      rcases oth_cases (h1.imm (Imm.of eH)) with ⟨hz, ho⟩ | ⟨th, ho, hth, hn⟩
      · refine if_ndecF hz (hN _ _ ⟨_, rfl, eH, ?_⟩)
        rw [take_ftx (by rw [he, ho]; rfl : e.th[1]? = some none)]
        rw [show ftx none = [] from rfl, List.append_nil]
        exact hlH
      · have hoi : e.th[1]? = some (some th) := by rw [he, ho]; rfl
        have tl := showTh_len (ok.each 1 th hoi)
        refine if_ndecT hn ?_
        have fin : ∀ {s9' : Option V} {H2 : Hp}, Ext H' H2 → N [some (.ref a), some (.ref l), some (.str e.key.1), some (.int e.key.2), some w0, some w1, some w2, some w3, some w4, s9'] (upd H2 l (.lst ((showKey e.key :: (e.th.take 1).flatMap ftx).map V.str ++ [V.str (showTh th)]))) := fun {s9' H2} e2 => hN _ _ ⟨_, rfl, Ext.mut (eH.trans e2) hlH0, by rw [upd_same, take_ftx hoi, ← List.cons_append, List.map_append]; rfl⟩
        have bnd : ((showKey e.key :: (e.th.take 1).flatMap ftx).map V.str).length < sizeLine := by
          rw [List.length_map, List.length_cons]
          have := ftx_len (os := e.th.take 1)
          rw [List.length_take] at this
          exact Nat.lt_of_le_of_lt (show _ ≤ 6 by have := ok.five; omega) (by decide)
        rcases th_ok (ok.each 1 th hoi) with ⟨z, rfl, x, k⟩ | ⟨t, z, rfl, -, k⟩ | ⟨pl, rfl, x, k⟩ | ⟨yy, m, d, rfl, x, k⟩ | ⟨n, rfl, x, k⟩ <;> first | cases x | skip
        exact ⟨_, rfl, .inl ⟨rfl, _, SqL.of hlH⟩, _, rfl, _, (t, z), rfl, hth, k, _, _, rfl, rfl, (by rw [← strLen_append]; exact Nat.le_trans tl (by decide)), l, _, _, rfl, rfl, hlH, bnd, fin Ext.rfl'⟩
    obtain ⟨s9, rfl, eH, hlH⟩ := hP
    refine seq_cut (fun σ H' => ∃ s9, σ = [some (.ref a), some (.ref l), some (.str e.key.1), some (.int e.key.2), some w0, some w1, some w2, some w3, some w4, s9] ∧ Ext H H' ∧ H' l = some (.lst ((showKey e.key :: (e.th.take 3).flatMap ftx).map V.str))) (fun N hN => ?_) (fun σ H' hP => ?_)
    · refine ⟨_, rfl, rfl, _, rfl, ?_⟩
      rcases oth_cases (h2.imm (Imm.of eH)) with ⟨hz, ho⟩ | ⟨th, ho, hth, hn⟩
      · refine if_ndecF hz (hN _ _ ⟨_, rfl, eH, ?_⟩)
        rw [take_ftx (by rw [he, ho]; rfl : e.th[2]? = some none)]
        rw [show ftx none = [] from rfl, List.append_nil]
        exact hlH
      · have hoi : e.th[2]? = some (some th) := by rw [he, ho]; rfl
        have tl := showTh_len (ok.each 2 th hoi)
        refine if_ndecT hn ?_
        have fin : ∀ {s9' : Option V} {H2 : Hp}, Ext H' H2 → N [some (.ref a), some (.ref l), some (.str e.key.1), some (.int e.key.2), some w0, some w1, some w2, some w3, some w4, s9'] (upd H2 l (.lst ((showKey e.key :: (e.th.take 2).flatMap ftx).map V.str ++ [V.str (showTh th)]))) := fun {s9' H2} e2 => hN _ _ ⟨_, rfl, Ext.mut (eH.trans e2) hlH0, by rw [upd_same, take_ftx hoi, ← List.cons_append, List.map_append]; rfl⟩
        have bnd : ((showKey e.key :: (e.th.take 2).flatMap ftx).map V.str).length < sizeLine := by
          rw [List.length_map, List.length_cons]
          have := ftx_len (os := e.th.take 2)
          rw [List.length_take] at this
          exact Nat.lt_of_le_of_lt (show _ ≤ 6 by have := ok.five; omega) (by decide)
        rcases th_ok (ok.each 2 th hoi) with ⟨z, rfl, x, k⟩ | ⟨t, z, rfl, x, k⟩ | ⟨pl, rfl, -, k⟩ | ⟨yy, m, d, rfl, x, k⟩ | ⟨n, rfl, x, k⟩ <;> first | cases x | skip
        obtain ⟨ap, ns, rfl, hap, hnp⟩ := hth
        refine ⟨_, rfl, .inl ⟨rfl, _, SqL.of hlH⟩, ⟨_, rfl⟩, _, rfl, ap, rfl, ⟨ns, SqT.of hap⟩, fun D hD => ?_⟩
        have nl : ns.length ≤ 8 := by rw [prd_len hnp]; exact k.hi
        refine lc_map (src_tup (xs := ns)) (fun _ => False) (fun m z _ => ∃ p, pl[m]? = some p ∧ z = .str (showName p)) (fun _ _ => True) hD (fun z => z) (Nat.le_trans nl (by decide)) (fun m z H H' im h => h) (fun _ _ _ h => h) True.intro (fun m H' _ k _ => SqT.of (Kp.ext k _ _ hap)) (fun _ _ _ _ k => Imm.of (Kp.ext k)) (fun m z H8 H9 hm kp _ hy Q' qq => ?_) fun H8 zs kp hD8 hl8 hr8 _ => ?_
        · obtain ⟨rfl, hz⟩ := hy
          obtain ⟨p, hpl, hat⟩ := prd_get hnp hz
          exact ⟨rfl, _, rfl, z, p, rfl, hat.imm (Imm.of (Kp.ext kp)), k.each p (List.mem_of_getElem? hpl), qq _ _ Kp.rfl' ⟨p, hpl, rfl⟩ True.intro⟩
        · have ez : zs = (pl.map showName).map V.str := by
            apply List.ext_getElem?
            intro m
            rw [List.map_map, List.getElem?_map]
            cases hm : zs[m]? with
            | none =>
              have := List.getElem?_eq_none_iff.mp hm
              rw [List.getElem?_eq_none (by rw [← prd_len hnp, ← hl8]; exact this)]
              rfl
            | some z =>
              obtain ⟨p, hp1, hp2⟩ := hr8 m z hm
              rw [hp1, hp2]
              rfl
          have e8 := Kp.ext kp
          have nlen := names_len k
          have js : ((pl.map showName).map (·.length)).sum + (pl.map showName).length * (", " : Str).length ≤ 16777216 := by
            have h2 : ((pl.map showName).map (fun x : Str => x.length)).sum ≤ 44 * (pl.map showName).length := sum_le fun x hx => by
              obtain ⟨p, hp, rfl⟩ := List.mem_map.mp hx
              exact showName_len (k.each p hp)
            have e : ((", " : Str)).length = 2 := rfl
            rw [e]
            have := k.hi
            rw [List.length_map] at h2 ⊢
            omega
          refine ⟨_, D, pl.map showName, rfl, rfl, .inl (SqL.of (by rw [← ez]; exact hD8)), js, ?_⟩
          exact ⟨_, _, rfl, rfl, (by rw [← strLen_append]; exact Nat.le_trans tl (by decide)), l, _, _, rfl, rfl, e8 _ _ hlH, bnd, fin e8⟩
    obtain ⟨s9, rfl, eH, hlH⟩ := hP
    refine seq_cut (fun σ H' => ∃ s9, σ = [some (.ref a), some (.ref l), some (.str e.key.1), some (.int e.key.2), some w0, some w1, some w2, some w3, some w4, s9] ∧ Ext H H' ∧ H' l = some (.lst ((showKey e.key :: (e.th.take 4).flatMap ftx).map V.str))) (fun N hN => ?_) (fun σ H' hP => ?_)
    · refine ⟨_, rfl, rfl, _, rfl, ?_⟩
      rcases oth_cases (h3.imm (Imm.of eH)) with ⟨hz, ho⟩ | ⟨th, ho, hth, hn⟩
      · refine if_ndecF hz (hN _ _ ⟨_, rfl, eH, ?_⟩)
        rw [take_ftx (by rw [he, ho]; rfl : e.th[3]? = some none)]
        rw [show ftx none = [] from rfl, List.append_nil]
        exact hlH
      · have hoi : e.th[3]? = some (some th) := by rw [he, ho]; rfl
        have tl := showTh_len (ok.each 3 th hoi)
        refine if_ndecT hn ?_
        have fin : ∀ {s9' : Option V} {H2 : Hp}, Ext H' H2 → N [some (.ref a), some (.ref l), some (.str e.key.1), some (.int e.key.2), some w0, some w1, some w2, some w3, some w4, s9'] (upd H2 l (.lst ((showKey e.key :: (e.th.take 3).flatMap ftx).map V.str ++ [V.str (showTh th)]))) := fun {s9' H2} e2 => hN _ _ ⟨_, rfl, Ext.mut (eH.trans e2) hlH0, by rw [upd_same, take_ftx hoi, ← List.cons_append, List.map_append]; rfl⟩
        have bnd : ((showKey e.key :: (e.th.take 3).flatMap ftx).map V.str).length < sizeLine := by
          rw [List.length_map, List.length_cons]
          have := ftx_len (os := e.th.take 3)
          rw [List.length_take] at this
          exact Nat.lt_of_le_of_lt (show _ ≤ 6 by have := ok.five; omega) (by decide)
        rcases th_ok (ok.each 3 th hoi) with ⟨z, rfl, x, k⟩ | ⟨t, z, rfl, x, k⟩ | ⟨pl, rfl, x, k⟩ | ⟨yy, m, d, rfl, -, k⟩ | ⟨n, rfl, x, k⟩ <;> first | cases x | skip
        obtain ⟨ap, dx, rfl, hap⟩ := hth
        exact ⟨_, rfl, .inl ⟨rfl, _, SqL.of hlH⟩, _, rfl, ap, dx, _, rfl, hap, ap, dx, yy, m, d, rfl, hap, k, fun H2 e2 => ⟨_, rfl, _, _, rfl, rfl, (by rw [← strLen_append]; exact Nat.le_trans tl (by decide)), l, _, _, rfl, rfl, e2 _ _ hlH, bnd, fin e2⟩⟩
    obtain ⟨s9, rfl, eH, hlH⟩ := hP
    refine seq_cut (fun σ H' => ∃ s9, σ = [some (.ref a), some (.ref l), some (.str e.key.1), some (.int e.key.2), some w0, some w1, some w2, some w3, some w4, s9] ∧ Ext H H' ∧ H' l = some (.lst ((showKey e.key :: (e.th.take 5).flatMap ftx).map V.str))) (fun N hN => ?_) (fun σ H' hP => ?_)
    · refine ⟨_, rfl, rfl, _, rfl, ?_⟩
      rcases oth_cases (h4.imm (Imm.of eH)) with ⟨hz, ho⟩ | ⟨th, ho, hth, hn⟩
      · refine if_ndecF hz (hN _ _ ⟨_, rfl, eH, ?_⟩)
        rw [take_ftx (by rw [he, ho]; rfl : e.th[4]? = some none)]
        rw [show ftx none = [] from rfl, List.append_nil]
        exact hlH
      · have hoi : e.th[4]? = some (some th) := by rw [he, ho]; rfl
        have tl := showTh_len (ok.each 4 th hoi)
        refine if_ndecT hn ?_
        have fin : ∀ {s9' : Option V} {H2 : Hp}, Ext H' H2 → N [some (.ref a), some (.ref l), some (.str e.key.1), some (.int e.key.2), some w0, some w1, some w2, some w3, some w4, s9'] (upd H2 l (.lst ((showKey e.key :: (e.th.take 4).flatMap ftx).map V.str ++ [V.str (showTh th)]))) := fun {s9' H2} e2 => hN _ _ ⟨_, rfl, Ext.mut (eH.trans e2) hlH0, by rw [upd_same, take_ftx hoi, ← List.cons_append, List.map_append]; rfl⟩
        have bnd : ((showKey e.key :: (e.th.take 4).flatMap ftx).map V.str).length < sizeLine := by
          rw [List.length_map, List.length_cons]
          have := ftx_len (os := e.th.take 4)
          rw [List.length_take] at this
          exact Nat.lt_of_le_of_lt (show _ ≤ 6 by have := ok.five; omega) (by decide)
        rcases th_ok (ok.each 4 th hoi) with ⟨z, rfl, x, k⟩ | ⟨t, z, rfl, x, k⟩ | ⟨pl, rfl, x, k⟩ | ⟨yy, m, d, rfl, x, k⟩ | ⟨n, rfl, -, k⟩ <;> first | cases x | skip
        obtain ⟨ap, dx, rfl, hap⟩ := hth
        exact ⟨_, rfl, .inl ⟨rfl, _, SqL.of hlH⟩, _, rfl, ap, dx, _, rfl, hap, ap, dx, n, rfl, hap, k.1, k.2, fun H2 e2 => ⟨_, rfl, _, _, rfl, rfl, (by rw [← strLen_append]; exact Nat.le_trans tl (by decide)), l, _, _, rfl, rfl, e2 _ _ hlH, bnd, fin e2⟩⟩
    obtain ⟨s9, rfl, eH, hlH⟩ := hP
    have t5 : e.th.take 5 = e.th := List.take_of_length_le (by rw [ok.five]; exact Nat.le_refl _)
    rw [t5] at hlH
    exact ⟨⟨_, rfl⟩, _, rfl, _, l, _, rfl, rfl, .inl (SqL.of hlH), Nat.le_trans (ftx_sum ok) (by decide), hq _ eH⟩
end
end TW
set_option Elab.async false
set_option linter.all false
set_option maxRecDepth 100000
set_option maxHeartbeats 4000000
namespace TW
open PySem PySem.Spec PyProof.Rows L2
open PySem.W (AllAlike Sortable dataLe alike)
/-! ### sorted keys -/
theorem srt_prd {α : Type} {R : V → α → Prop} {mk : α → PyData} {vs : List V} {xs : List α} (h : Paired R vs xs) : Paired R (srt ((vs.zip xs).map fun p => (p.1, mk p.2))) (xs.mergeSort (dataLe false mk)) := by
  obtain ⟨h1, h2, h3⟩ := prd_zip h
  have e1 : srt ((vs.zip xs).map fun p => (p.1, mk p.2)) = ((vs.zip xs).mergeSort (dataLe false fun p => mk p.2)).map Prod.fst := by
    have z := List.map_mergeSort (r := dataLe false fun p : V × α => mk p.2) (s := dataLe false (Prod.snd : VD → PyData)) (f := fun p : V × α => ((p.1, mk p.2) : VD)) (l := vs.zip xs) (fun a _ b _ => rfl)
    unfold srt
    rw [← z, List.map_map]
    rfl
  have e2 : xs.mergeSort (dataLe false mk) = ((vs.zip xs).mergeSort (dataLe false fun p => mk p.2)).map Prod.snd := by
    have z := List.map_mergeSort (r := dataLe false fun p : V × α => mk p.2) (s := dataLe false mk) (f := (Prod.snd : V × α → α)) (l := vs.zip xs) (fun a _ b _ => rfl)
    rw [z, h2]
  rw [e1, e2]
  exact prd_of fun p hp => h3 p (List.mem_mergeSort.mp hp)
def kdat (k : LKey) : PyData := .tuple [.str k.1, .int k.2]
theorem tdata_kkey (k : LKey) : tdata (kkey k) = kdat k := rfl
def sortK (ks : List LKey) : List LKey := ks.mergeSort (dataLe false kdat)
section
variable {K : PySem.W.Frag} {H : Hp}
theorem keys_vd : ∀ {kvs : List (List Key × V)} {T : Tab} {as : List Addr}, TabAt K H kvs T → IsKeys H kvs as → Paired (KeyAt H) (as.map V.ref) ((absT T).map (·.1)) ∧ keyVD kvs as = ((as.map V.ref).zip ((absT T).map (·.1))).map fun p => (p.1, kdat p.2)
  | _, _, _, .nil, .nil => ⟨.nil, rfl⟩
  | _, _, _, .cons (a := kv) (b := t) (l₁ := kvs) (l₂ := T) a r, .cons (b := b) (l₂ := bs) h r' => by
    obtain ⟨i1, i2⟩ := keys_vd r r'
    refine ⟨.cons ⟨b, rfl, ?_⟩ i1, ?_⟩
    · rw [a.1] at h; exact h
    · show (V.ref b, tdata kv.1) :: keyVD kvs bs = (V.ref b, kdat t.1) :: _
      rw [i2, a.1]
      rfl
theorem srt_keys {kvs : List (List Key × V)} {T : Tab} {as : List Addr} (h : TabAt K H kvs T) (hk : IsKeys H kvs as) : Paired (KeyAt H) (srt (keyVD kvs as)) (sortK ((absT T).map (·.1))) := by
  obtain ⟨h1, h2⟩ := keys_vd h hk
  rw [h2]
  exact srt_prd h1
theorem keys_dat : ∀ {kvs : List (List Key × V)} {T : Tab}, TabAt K H kvs T → (kvs.map fun p => tdata p.1) = ((absT T).map (·.1)).map kdat
  | _, _, .nil => rfl
  | _, _, .cons (a := kv) (b := t) (l₁ := kvs) (l₂ := T) a r => by
    show tdata kv.1 :: (kvs.map fun p => tdata p.1) = kdat t.1 :: _
    rw [keys_dat r, a.1]
    rfl
end
theorem alike_keys (ks : List LKey) : AllAlike (ks.map kdat) := by
  intro d hd d' hd'
  obtain ⟨t, ht, rfl⟩ := List.mem_map.mp hd
  obtain ⟨t', ht', rfl⟩ := List.mem_map.mp hd'
  simp [kdat, alike, PySem.W.alikeAll]
theorem sortable_keys (ks : List LKey) : Sortable (ks.map kdat) := .inl fun d hd => by
  obtain ⟨t, ht, rfl⟩ := List.mem_map.mp hd
  exact ⟨_, _, rfl⟩
theorem depth_key (k : LKey) : (kdat k).depth ≤ 1 := by simp [kdat, PyData.depth, PyData.depthAll]
def entOf (t : ATab) (k : LKey) : Ent := ⟨k, (List.range 5).map fun i => sureOf (look t k i)⟩
def entsOf (t : ATab) : List Ent := (sortK (t.map (·.1))).map (entOf t)
theorem KeyAt.ext {H H' : Hp} {v : V} {k : LKey} (e : Ext H H') (h : KeyAt H v k) : KeyAt H' v k := h.imm (Imm.of e)
/-- a block's scope in a function: what is free is a cell -/
def relab (sc : Scope) : Scope := { sc with names := sc.names.map fun p => if p.2 == NameKind.free then (p.1, NameKind.cell) else p }
def scEntries : Scope := relab <| match defBody s_Listing_entries with
  | [.Return (some (.Call _ [.ListComp _ _ sc _] _ _)) _] => sc
  | _ => default
end TW
set_option Elab.async false
set_option linter.all false
set_option maxRecDepth 100000
set_option maxHeartbeats 4000000
namespace TW
open PySem PySem.Spec PyProof.Rows L2
section
variable {P : Program} {w : World} {K : PySem.W.Frag} {mg : Str → Option Value} {base : Heap}
def sp_Listing_entries (K : PySem.W.Frag) : Sp := fun vs H Q _ => ∃ p t U, vs = [.ref p] ∧ LisAt K H p t ∧ UOk U ∧ TabOk U t ∧ ∀ a H' ws, Ext H H' → H' a = some (.tup ws) → Paired (EntAt K H') ws (entsOf t) → Q (.ref a) H'
theorem ok_Listing_entries (T : Txt K mg) : C8.Met P w K mg base 3 (He.ga K "Listing") "entries" (sp_Listing_entries K) [] := by
  obtain ⟨fd, F⟩ := T.d_Listing_entries
  refine met_of T.c_Listing T.t_Listing_entries F (fun _ _ _ _ _ _ us hl => match us, hl with | [_], _ => rfl) sc_Listing_entries (fun vs H Q E h => ?_) fun cdv A outer s H vs Q E hr h => ?_
  · obtain ⟨p, t, U, rfl, ⟨dx, d, kvs, T1, hins, hdic, htab, rfl⟩, uo, tok, hq⟩ := h
    rfl
  · have hu := hu_of hr
    have hu64 := hr.units
    obtain ⟨p, t, U, rfl, ⟨dx, d, kvs, T1, hins, hdic, htab, rfl⟩, uo, tok, hq⟩ := h
    refine ⟨_, (pss_one (ps_ret (pe_callTy call_tuple_of (by rfl) T.f_tuple (by decide +kernel) (pa_cons (pe_lc (own := [("key", 1)]) (by rfl) sc_Listing_entries.nd (pi_list (pe_callB (cr_sortT rfl hu64) (by rfl) T.f_sorted (by decide +kernel) (pa_cons (pe_fld (pv 0) rfl) pa_nil))) (blkOk_by (N := N_Listing_entries) (sc := defScope s_Listing_entries) (by decide +kernel)) (fun _ _ _ _ _ => (pg_name (i := 1) sc_Listing_entries.nd rfl (by first | exact Or.inl rfl | exact Or.inr rfl))) (fun _ _ _ _ _ => by exact pts_nil) (fun _ _ _ _ _ => by exact (pe_op (kCatA K) (pv 1) (pe_callTy (kTupleOf K) (by rfl) T.f_tuple (by decide +kernel) (pa_cons (pe_lc (own := [("field", 2)]) (by rfl) sc_Listing_entries.nd (kTupI K (pe_glob (v := .ref (He.ga K "FIELDS")) rfl T.g_FIELDS rfl)) (blkOk_by (N := N_Listing_entries) (sc := scEntries) (by decide +kernel)) (fun _ _ _ _ _ => (pg_name (i := 2) sc_Listing_entries.nd rfl (by first | exact Or.inl rfl | exact Or.inr rfl))) (fun _ _ _ _ _ => by exact pts_nil) (fun _ _ _ _ _ => by exact (C8.pe_mt (ok_Listing_sure T) hr (by decide) (pv 0) (pa_cons (pv 1) (pa_cons (pv 2) pa_nil))))) pa_nil))))) pa_nil)))), ?_⟩
    have lis : ∀ {H'}, Ext H H' → LisAt K H' p (absT T1) := fun e => LisAt.ext e ⟨dx, d, kvs, T1, hins, hdic, htab, rfl⟩
    refine ⟨_, rfl, p, _, dx, _, _, rfl, hins, T.c_Listing, T.n_Listing_things, rfl, d, kvs, rfl, hdic, (by rw [keys_dat htab]; exact alike_keys _), (by rw [keys_dat htab]; exact sortable_keys _), fun kv hkv => ?_, fun q as hq0 hk => ?_⟩
    · have : tdata kv.1 ∈ kvs.map fun p => tdata p.1 := List.mem_map.mpr ⟨kv, hkv, rfl⟩
      rw [keys_dat htab] at this
      obtain ⟨k, _, e⟩ := List.mem_map.mp this
      rw [← e]
      exact Nat.le_trans (depth_key k) (by decide)
    have hsp := srt_keys htab hk
    have len : (srt (keyVD kvs as)).length ≤ 1000 := by
      have := tok.len uo
      rw [prd_len hsp]
      unfold sortK
      rw [List.length_mergeSort, List.length_map]
      exact this
    refine ⟨q, rfl, ⟨_, SqL.of upd_same⟩, fun D hD => ?_⟩
    have e0 : Ext H (upd H q (.lst (srt (keyVD kvs as)))) := Ext.upd hq0
    refine lc_map (src_list (xs := srt (keyVD kvs as))) (fun _ => False) (fun m z H' => ∃ k, (sortK ((absT T1).map (·.1)))[m]? = some k ∧ EntAt K H' z (entOf (absT T1) k)) (fun _ _ => True) hD (fun z => z) (Nat.le_trans len (by decide)) (fun m z H H' im ⟨k, h1, h2⟩ => ⟨k, h1, h2.imm im⟩) (fun _ _ _ h => h) True.intro (fun m H' _ k _ => SqL.of (Kp.ext k _ _ upd_same)) (fun _ _ _ _ k => Imm.of (Kp.ext k)) (fun m z H8 H9 hm kp _ hy Q' qq => ?_) fun H8 zs kp hD8 hl8 hr8 _ => ?_
    · obtain ⟨rfl, hz⟩ := hy
      obtain ⟨k, hk1, hk2⟩ := prd_get hsp hz
      have e8 : Ext H H9 := e0.trans (Kp.ext kp)
      obtain ⟨ka, rfl, hka⟩ := hk2.ext e8
      have hks : hasK (absT T1) k = true := by
        have := List.mem_of_getElem? hk1
        unfold sortK at this
        obtain ⟨r, hr, e⟩ := List.mem_map.mp (List.mem_mergeSort.mp this)
        exact hasK_iff.mpr ⟨r, hr, e⟩
      refine ⟨rfl, _, rfl, _, rfl, ⟨_, T.fields _⟩, fun D2 hD2 => ?_⟩
      refine lc_map (src_tup (xs := [.str "code", .str "title", .str "players", .str "day", .str "length"])) (fun _ => False) (fun i z H' => OThAt K H' z (sureOf (look (absT T1) k i))) (fun _ _ => True) hD2 (fun z => z) (by show 5 ≤ sizeLine; decide) (fun m z H H' im h => h.imm im) (fun _ _ _ h => h) True.intro (fun m H' _ k _ => T.fields _) (fun _ _ _ _ k => Imm.of (Kp.ext k)) (fun i x H3 H4 hi kp3 _ hy Q2 qq2 => ?_) fun H3 xs kp3 hD3 hl3 hr3 _ => ?_
      · obtain ⟨rfl, hx⟩ := hy
        obtain ⟨f, rfl, hf⟩ : ∃ f : Str, x = .str f ∧ FLD[i]? = some f := by
          rcases i with _ | _ | _ | _ | _ | j
          · cases hx; exact ⟨_, rfl, rfl⟩
          · cases hx; exact ⟨_, rfl, rfl⟩
          · cases hx; exact ⟨_, rfl, rfl⟩
          · cases hx; exact ⟨_, rfl, rfl⟩
          · cases hx; exact ⟨_, rfl, rfl⟩
          · exact absurd hi (by show ¬ j + 1 + 1 + 1 + 1 + 1 < 5; omega)
        have e3 : Ext H H4 := e8.trans (Kp.ext kp3)
        exact ⟨rfl, _, rfl, p, dx, _, rfl, e3 _ _ hins, rfl, _, rfl, _, rfl, p, absT T1, .ref ka, k, i, f, U, rfl, lis e3, ⟨ka, rfl, Kp.ext kp3 _ _ hka⟩, hf, uo, tok, hks, fun x hx => qq2 _ _ Kp.rfl' hx True.intro⟩
      · have e3 := Kp.ext kp3
        refine ⟨D2, xs, rfl, .inl ⟨SqL.of hD3, fun l hl => ?_⟩⟩
        have e4 : Ext H9 (upd H3 l (.tup xs)) := e3.trans (Ext.upd hl)
        refine ⟨ka, l, kvals k, xs, rfl, rfl, SqT.of (e4 _ _ hka), SqT.of upd_same, (by rw [hl3]; show 2 + 5 ≤ sizeLine; decide), (fun z => nomatch z), (fun _ z => by rw [z] at hl3; cases hl3), fun _ _ p' hp' => ?_⟩
        refine qq _ _ (Kp.of (e4.trans (Ext.upd hp'))) ⟨k, hk1, p', xs, rfl, upd_same, ?_⟩ True.intro
        show Paired _ xs ((List.range 5).map fun i => sureOf (look (absT T1) k i))
        refine prd_ix (by rw [hl3, List.length_map, List.length_range]; rfl) fun i x y h1 h2 => ?_
        have hi := (List.getElem?_eq_some_iff.mp h1).1
        rw [hl3] at hi
        have hi5 : i < 5 := hi
        rw [List.getElem?_map, List.getElem?_range hi5] at h2
        cases h2
        exact (hr3 i x h1).imm (Imm.of ((Ext.upd hl).trans (Ext.upd hp')))
    · have e8 : Ext H H8 := e0.trans (Kp.ext kp)
      refine ⟨D, zs, rfl, .inl ⟨SqL.of hD8, fun l hl => ?_⟩⟩
      refine hq l _ zs (e8.trans (Ext.upd hl)) upd_same (ent_imm (Imm.of (Ext.upd hl)) (prd_ix (by rw [hl8, prd_len hsp]; unfold entsOf; rw [List.length_map]) fun m z e h1 h2 => ?_))
      obtain ⟨k, h3, h4⟩ := hr8 m z h1
      unfold entsOf at h2
      rw [List.getElem?_map, h3] at h2
      cases h2
      exact h4
end
end TW
set_option Elab.async false
set_option linter.all false
set_option maxRecDepth 100000
set_option maxHeartbeats 4000000
namespace TW
open PySem PySem.Spec PyProof.Rows L2
open PySem.W (AllAlike Sortable dataLe alike)
/-! ### clashes -/
abbrev Clash := LKey × Str
def cdat (c : Clash) : PyData := .tuple [.str c.1.1, .int c.1.2, .str c.2]
def ClAt (H : Hp) (v : V) (c : Clash) : Prop := ∃ a, v = .ref a ∧ H a = some (.tup [.str c.1.1, .int c.1.2, .str c.2])
theorem ClAt.imm {H H' : Hp} {v : V} {c : Clash} (e : Imm H H') (h : ClAt H v c) : ClAt H' v c := let ⟨a, h1, h2⟩ := h; ⟨a, h1, e _ _ h2 rfl⟩
def clRow (r : LKey × List (List Th)) (j : Nat) : List Clash := (List.range j).flatMap fun i => if 1 < ((r.2[i]?).getD []).length then [(r.1, (FLD[i]?).getD (Str.ofString ""))] else []
def clashesOf (t : ATab) : List Clash := t.flatMap fun r => clRow r 5
def sortC (l : List Clash) : List Clash := l.mergeSort (dataLe false cdat)
theorem clRow_len {r : LKey × List (List Th)} {j : Nat} : (clRow r j).length ≤ j := by
  have := len_flat (c := 1) (l := List.range j) (f := fun i => if 1 < ((r.2[i]?).getD []).length then [(r.1, (FLD[i]?).getD (Str.ofString ""))] else []) fun i _ => by
    by_cases h : 1 < ((r.2[i]?).getD []).length
    · rw [if_pos h]; exact Nat.le_refl _
    · rw [if_neg h]; exact Nat.zero_le _
  rw [List.length_range] at this
  unfold clRow
  omega
theorem cl_len {U : List Ent} {t : ATab} (tok : TabOk U t) (uo : UOk U) {i : Nat} : ((t.take i).flatMap fun r => clRow r 5).length ≤ 5000 := by
  have h1 := len_flat (c := 5) (l := t.take i) (f := fun r => clRow r 5) fun r hr => clRow_len
  have h2 := tok.len uo
  have h3 : (t.take i).length ≤ 1000 := by rw [List.length_take]; omega
  omega
theorem clRow_succ (r : LKey × List (List Th)) (j : Nat) : clRow r (j + 1) = clRow r j ++ if 1 < ((r.2[j]?).getD []).length then [(r.1, (FLD[j]?).getD (Str.ofString ""))] else [] := by
  unfold clRow
  rw [List.range_succ, List.flatMap_append, List.flatMap_singleton]
theorem alike_cl (ks : List Clash) : AllAlike (ks.map cdat) := by
  intro d hd d' hd'
  obtain ⟨t, ht, rfl⟩ := List.mem_map.mp hd
  obtain ⟨t', ht', rfl⟩ := List.mem_map.mp hd'
  simp [cdat, alike, PySem.W.alikeAll]
theorem sortable_cl (ks : List Clash) : Sortable (ks.map cdat) := .inl fun d hd => by
  obtain ⟨t, ht, rfl⟩ := List.mem_map.mp hd
  exact ⟨_, _, rfl⟩
theorem depth_cl (k : Clash) : (cdat k).depth ≤ 1 := by simp [cdat, PyData.depth, PyData.depthAll]
theorem dp_cl {K : PySem.W.Frag} {H : Hp} {v : V} {c : Clash} (h : ClAt H v c) : Dp K H v (cdat c) := by
  obtain ⟨a, rfl, h⟩ := h
  exact .tup (SqT.of h) (.cons (.str _) (.cons (.int _) (.cons (.str _) .nil)))
/-- a list that sorted takes -/
theorem sortOk_of {K : PySem.W.Frag} {H : Hp} {α : Type} {R : V → α → Prop} {mk : α → PyData} {vs : List V} {xs : List α} (h : Paired R vs xs) (hd : ∀ v x, R v x → Dp K H v (mk x)) (h1 : AllAlike (xs.map mk)) (h2 : Sortable (xs.map mk)) (h3 : ∀ x ∈ xs, (mk x).depth ≤ 40) :
    SortOk K H ((vs.zip xs).map fun p => (p.1, mk p.2)) ∧ ((vs.zip xs).map fun p => ((p.1, mk p.2) : VD)).map Prod.fst = vs := by
  obtain ⟨a1, a2, a3⟩ := prd_zip h
  have e : ((vs.zip xs).map fun p => ((p.1, mk p.2) : VD)).map Prod.snd = xs.map mk := by
    rw [List.map_map]
    show (vs.zip xs).map (mk ∘ Prod.snd) = _
    rw [← List.map_map, a2]
  refine ⟨⟨fun p hp => ?_, by rw [e]; exact h1, by rw [e]; exact h2, fun p hp => ?_⟩, ?_⟩
  · obtain ⟨q, hq, rfl⟩ := List.mem_map.mp hp
    exact hd _ _ (a3 q hq)
  · obtain ⟨q, hq, rfl⟩ := List.mem_map.mp hp
    exact h3 _ (List.of_mem_zip hq).2
  · rw [List.map_map]
    exact a1
theorem fld_str {i : Nat} {x : V} (h : ([.str "code", .str "title", .str "players", .str "day", .str "length"] : List V)[i]? = some x) : ∃ f : Str, x = .str f ∧ FLD[i]? = some f := by
  rcases i with _ | _ | _ | _ | _ | j
  · cases h; exact ⟨_, rfl, rfl⟩
  · cases h; exact ⟨_, rfl, rfl⟩
  · cases h; exact ⟨_, rfl, rfl⟩
  · cases h; exact ⟨_, rfl, rfl⟩
  · cases h; exact ⟨_, rfl, rfl⟩
  · simp at h
/-! ### the entries' texts -/
theorem showE_len {e : Ent} (ok : EntOk e) : (showE e).length ≤ 5000 := by
  rw [showE_eq]
  exact Nat.le_trans (join_len _ _) (ftx_sum ok)
theorem sure_mem {ths : List Th} {th : Th} (h : sureOf ths = some th) : ths = [th] := by
  match ths, h with
  | [x], h => exact congrArg (fun a => [a]) (Option.some.inj h)
section
variable {U : List Ent} {t : ATab}
theorem look_ok (tok : TabOk U t) (uo : UOk U) {k : LKey} {i : Nat} {th : Th} (h : th ∈ look t k i) : th.ok i := by
  unfold look lookR at h
  cases hf : t.find? fun r => decide (r.1 = k) with
  | none => rw [hf] at h; cases h
  | some r =>
    rw [hf] at h
    have hr := List.mem_of_find?_eq_some hf
    cases hi : r.2[i]? with
    | none =>
      have h : th ∈ (r.2[i]?).getD [] := h
      rw [hi] at h; cases h
    | some ths =>
      have h : th ∈ (r.2[i]?).getD [] := h
      rw [hi] at h
      exact tok.okT uo hr hi h
theorem entOf_ok (tok : TabOk U t) (uo : UOk U) {k : LKey} (hk : KeyOk k) : EntOk (entOf t k) := by
  refine ⟨hk, by show ((List.range 5).map _).length = 5; rw [List.length_map, List.length_range], fun i th h => ?_⟩
  have h : ((List.range 5).map fun i => sureOf (look t k i))[i]? = some (some th) := h
  rw [List.getElem?_map] at h
  cases hi : (List.range 5)[i]? with
  | none => rw [hi] at h; cases h
  | some j =>
    have hj := (List.getElem?_eq_some_iff.mp hi)
    rw [hi] at h
    obtain ⟨hlt, e⟩ := hj
    rw [List.getElem_range] at e
    subst e
    have h := sure_mem (Option.some.inj h)
    exact look_ok tok uo (by rw [h]; exact List.mem_singleton.mpr rfl)
theorem ents_ok (tok : TabOk U t) (uo : UOk U) {e : Ent} (h : e ∈ entsOf t) : EntOk e := by
  obtain ⟨k, hk, rfl⟩ := List.mem_map.mp h
  obtain ⟨r, hr, rfl⟩ := List.mem_map.mp (List.mem_mergeSort.mp hk)
  exact entOf_ok tok uo (tok.okK uo hr)
theorem ents_len (tok : TabOk U t) (uo : UOk U) : (entsOf t).length ≤ 1000 := by
  unfold entsOf sortK
  rw [List.length_map, List.length_mergeSort, List.length_map]
  exact tok.len uo
def strL (t : ATab) : Str := Txt.join "\n" ((entsOf t).map showE)
theorem strL_sum (tok : TabOk U t) (uo : UOk U) : (((entsOf t).map showE).map (·.length)).sum + ((entsOf t).map showE).length * (("\n" : Str)).length ≤ 16777216 := by
  have h2 : (((entsOf t).map showE).map (fun x : Str => x.length)).sum ≤ 5000 * ((entsOf t).map showE).length := sum_le fun x hx => by
    obtain ⟨e, he, rfl⟩ := List.mem_map.mp hx
    exact showE_len (ents_ok tok uo he)
  have h3 := ents_len tok uo
  have e : (("\n" : Str)).length = 1 := rfl
  rw [e]
  rw [List.length_map] at h2 ⊢
  omega
end
end TW
set_option Elab.async false
set_option linter.all false
set_option maxRecDepth 100000
set_option maxHeartbeats 4000000
namespace TW
open PySem PySem.Spec PyProof.Rows L2
section
variable {P : Program} {w : World} {K : PySem.W.Frag} {mg : Str → Option Value} {base : Heap}
def sp_Listing_clashes (K : PySem.W.Frag) : Sp := fun vs H Q _ => ∃ p t U, vs = [.ref p] ∧ LisU K H p t ∧ UOk U ∧ TabOk U t ∧ ∀ a H' ws, Ext H H' → H' a = some (.tup ws) → Paired (ClAt H') ws (sortC (clashesOf t)) → Q (.ref a) H'
theorem ok_Listing_clashes (T : Txt K mg) : C8.Met P w K mg base 1 (He.ga K "Listing") "clashes" (sp_Listing_clashes K) [] := by
  obtain ⟨fd, F⟩ := T.d_Listing_clashes
  refine met_of T.c_Listing T.t_Listing_clashes F (fun _ _ _ _ _ _ us hl => match us, hl with | [_], _ => rfl) sc_Listing_clashes (fun vs H Q E h => ?_) fun cdv A outer s H vs Q E hr h => ?_
  · obtain ⟨p, t, U, rfl, ⟨dx, d, kvs, T1, hins, hdic, htab, rfl⟩, uo, tok, hq⟩ := h
    rfl
  · have hu := hu_of hr
    have hu64 := hr.units
    obtain ⟨p, t, U, rfl, ⟨dx, d, kvs, T1, hins, hdic, htab, rfl⟩, uo, tok, hq⟩ := h
    refine ⟨_, (pss_cons (ps_set (i := 1) sc_Listing_clashes.nd rfl (by first | exact Or.inl rfl | exact Or.inr rfl) (pe_lst pa_nil))
    (pss_cons (ps_lock (ps_for PassesOwn.never rfl (pi_itemsT (pe_fld (pv 0) rfl)) (pg_tup (by rfl) (pgs_cons (pg_name (i := 2) sc_Listing_clashes.nd rfl (by first | exact Or.inl rfl | exact Or.inr rfl)) (pgs_cons (pg_name (i := 3) sc_Listing_clashes.nd rfl (by first | exact Or.inl rfl | exact Or.inr rfl)) pgs_nil)))
    (pss_one (ps_expr (pe_bm PySem.F.plainAttrs_list PySem.F.slot_list_extend PySem.F.type_list_extend mt_extend (pv 1) (pa_cons (pe_lc (own := [("field", 4)]) (by rfl) sc_Listing_clashes.nd (pi_tup (pe_glob (v := .ref (He.ga K "FIELDS")) rfl T.g_FIELDS rfl)) (blkOk_by (N := N_Listing_clashes) (sc := defScope s_Listing_clashes) (by decide +kernel)) (fun _ _ _ _ _ => (pg_name (i := 4) sc_Listing_clashes.nd rfl (by first | exact Or.inl rfl | exact Or.inr rfl))) (fun _ _ _ _ _ => by exact (pts_one (pt_cmpR op_gt (pe_callB (kLen K) (by rfl) T.f_len (by decide +kernel) (pa_cons (pe_dget hu (pv 3) (pv 4) (fun _ _ => rfl)) pa_nil)) pe_int (nomark _)))) (fun _ _ _ _ _ => by exact (pe_op (kCatA K) (pv 2) (pe_tup (pa_cons (pv 4) pa_nil))))) pa_nil))))))
    (pss_one (ps_ret (pe_callTy call_tuple_of (by rfl) T.f_tuple (by decide +kernel) (pa_cons (pe_callB (cr_sortL hu64) (by rfl) T.f_sorted (by decide +kernel) (pa_cons (pv 1) pa_nil)) pa_nil)))))), ?_⟩
    refine ⟨by show 0 ≤ sizeLine; decide, fun a ha => ?_⟩
    refine next_ok ?_
    dsimp only
    have had : a ≠ d := (ne_of_none hdic ha).symm
    generalize hH1 : upd H a (.lst []) = H1
    have e1 : Ext H H1 := by rw [← hH1]; exact Ext.upd ha
    have ha1 : H1 a = some (.lst []) := by rw [← hH1]; exact upd_same
    refine ⟨d, .dT kvs, e1 _ _ hdic, True.intro, fun od => ?_⟩
    have hb0 : upd H d (.frz od (.dT kvs)) a = none := by rw [upd_ne had]; exact ha
    have e2 : Ext (upd H d (.frz od (.dT kvs))) (upd H1 d (.frz od (.dT kvs))) := by
      rw [← hH1]
      intro b o hb
      by_cases h : b = d
      · subst h; rw [upd_same] at hb ⊢; exact hb
      · rw [upd_ne h] at hb ⊢; exact Ext.upd ha b o hb
    have htab2 : ∀ {H'}, Ext (upd H d (.frz od (.dT kvs))) H' → TabAt K H' kvs T1 := fun e => (htab.frz hdic).ext e
    have hins2 : ∀ {H'}, Ext (upd H d (.frz od (.dT kvs))) H' → H' p = some (.ins (cListing K) dx [("things", .ref d)]) := fun e => e _ _ (by rw [upd_ne (ne_of hins hdic fun z => nomatch z)]; exact hins)
    have hdd : ∀ {H'}, Ext (upd H d (.frz od (.dT kvs))) H' → H' d = some (.frz od (.dT kvs)) := fun e => e _ _ upd_same
    refine ⟨_, rfl, p, _, dx, _, _, rfl, hins2 e2, T.c_Listing, T.n_Listing_things, rfl, d, od, kvs, rfl, hdd e2, ?_⟩
    refine for_src src_itemsT (fun i σ H' => (∃ s2 s3 s4, σ = [some (.ref p), some (.ref a), s2, s3, s4]) ∧ Ext (upd H d (.frz od (.dT kvs))) H' ∧ ∃ ws, H' a = some (.lst ws) ∧ Paired (ClAt H') ws (((absT T1).take i).flatMap fun r => clRow r 5)) ⟨⟨_, _, _, rfl⟩, e2, [], by rw [upd_ne had]; exact ha1, .nil⟩ (fun i σ H' _ h => hdd h.2.1) (fun i x σ H3 H4 hi h hy => ?_) fun σ H' h => ?_
    · obtain ⟨T2, b, k, v, hkv, rfl, hT2, hbk, rfl⟩ := hy
      obtain ⟨⟨s2, s3, s4, rfl⟩, e3, ws, hws, hwp⟩ := h
      have htab3 := htab2 e3
      obtain ⟨key, r, hT, rfl, hrow, hab⟩ := tab_at htab3 hkv
      have hr0 : (key, r.2) ∈ absT T1 := List.mem_of_getElem? hab
      have e34 : Ext H3 (upd H3 T2 (.tup [.ref b, v])) := Ext.upd hT2
      generalize hH5 : upd H3 T2 (.tup [.ref b, v]) = H5 at e34
      have hT5 : H5 T2 = some (.tup [.ref b, v]) := by rw [← hH5]; exact upd_same
      have hbk5 := e34 _ _ hbk
      have hrow5 := hrow.ext e34
      have hws5 := e34 _ _ hws
      have hwp5 := prd_mono (fun _ _ q => ClAt.imm (Imm.of e34) q) hwp
      have hl0 : ws.length ≤ 5000 := by rw [prd_len hwp]; exact cl_len tok uo
      obtain ⟨kk, rfl, hkk, h5, hrest⟩ := id hrow5
      refine ⟨T2, _, rfl, SqT.of hT5, rfl, _, _, rfl, _, _, rfl, rfl, ?_⟩
      refine ⟨_, rfl, .inl ⟨rfl, ws, SqL.of hws5⟩, _, rfl, ⟨_, T.fields _⟩, fun D hD => ?_⟩
      refine lc_src (src_tup (xs := [.str "code", .str "title", .str "players", .str "day", .str "length"])) (fun j H' => Ext H5 H' ∧ ∃ acc, H' D = some (.lst acc) ∧ Paired (ClAt H') acc (clRow (key, r.2) j)) ⟨Ext.upd hD, [], upd_same, .nil⟩ (fun j H' _ h => T.fields _) (fun j x H6 H7 hj h hy => ?_) fun H6 h => ?_
      · obtain ⟨rfl, hx⟩ := hy
        obtain ⟨e6, acc, hacc, hap⟩ := h
        obtain ⟨f, rfl, hf⟩ := fld_str hx
        obtain ⟨kk', l, ths, us, e, hths, hus, hup, hg⟩ := row_list (hrow5.ext e6) hf
        cases e
        have hal : acc.length < sizeLine := by
          rw [prd_len hap]
          exact Nat.lt_of_le_of_lt clRow_len (Nat.lt_trans hj (by show 5 < sizeLine; decide))
        refine ⟨rfl, _, rfl, _, rfl, kk, .ref l, rfl, hg, _, us.length, rfl, .inl ⟨us, SqL.of hus, rfl⟩, _, _, rfl, rfl, _, rfl, ?_⟩
        have hs := clRow_succ (key, r.2) j
        rw [show ((key, r.2).2[j]?).getD [] = ths by rw [hths]; rfl, show (FLD[j]?).getD (Str.ofString "") = f by rw [hf]; rfl] at hs
        have hul := prd_len hup
        by_cases hc : 1 < ths.length
        · rw [if_pos hc] at hs
          refine if_decT (by omega) ⟨_, rfl, _, rfl, by show 1 ≤ sizeLine; decide, fun t1 ht1 => ?_⟩
          refine ⟨b, t1, kvals key, _, rfl, rfl, SqT.of ((Ext.upd ht1) _ _ (e6 _ _ hbk5)), SqT.of upd_same, (by show 2 + 1 ≤ sizeLine; decide), (fun z => nomatch z), (fun _ z => nomatch z), fun _ _ c hc' => ?_⟩
          have e7 : Ext H7 (upd (upd H7 t1 (.tup [.str f])) c (.tup (kvals key ++ [.str f]))) := (Ext.upd ht1).trans (Ext.upd hc')
          refine ⟨acc, e7 _ _ hacc, hal, Ext.mut (e6.trans e7) hD, _, upd_same, ?_⟩
          rw [hs]
          have cD : c ≠ D := fun z => by rw [z] at hc'; have := (Ext.upd ht1 (o := .tup [.str f])) _ _ hacc; rw [hc'] at this; cases this
          exact prd_app (prd_mono (fun _ _ q => q.imm ((Imm.of e7).trans (imm_lst (e7 _ _ hacc)))) hap) (.cons ⟨c, rfl, by rw [upd_ne cD, upd_same]; rfl⟩ .nil)
        · rw [if_neg hc, List.append_nil] at hs
          refine if_decF (by omega) ⟨e6, acc, hacc, ?_⟩
          rw [hs]; exact hap
      · obtain ⟨e6, acc, hacc, hap⟩ := h
        have hal : acc.length ≤ 5 := by rw [prd_len hap]; exact clRow_len
        refine ⟨a, D, ws, acc, rfl, rfl, e6 _ _ hws5, hacc, Nat.le_trans (Nat.add_le_add hl0 hal) (by decide), ⟨⟨_, _, _, rfl⟩, Ext.mut ((e3.trans e34).trans e6) hb0, _, upd_same, ?_⟩⟩
        rw [flat_take hab]
        exact prd_app (prd_mono (fun _ _ q => q.imm ((Imm.of e6).trans (imm_lst (e6 _ _ hws5)))) hwp5) (prd_mono (fun _ _ q => q.imm (imm_lst (e6 _ _ hws5))) hap)
    · obtain ⟨⟨s2, s3, s4, rfl⟩, e3, ws, hws, hwp⟩ := h
      refine ⟨hdd e3, ?_⟩
      rw [show kvs.length = (absT T1).length from (tab_len htab).symm, List.take_length] at hwp
      have eH := ext_frz hdic e3
      have hwsU : upd H' d (.dT kvs) a = some (.lst ws) := by rw [upd_ne had]; exact hws
      have hwpU : Paired (ClAt (upd H' d (.dT kvs))) ws (clashesOf (absT T1)) := prd_mono (fun _ _ q => q.imm (Imm.upd fun o' h => by rw [hdd e3] at h; rw [← Option.some.inj h]; rfl)) hwp
      generalize upd H' d (.dT kvs) = H8 at eH hwsU hwpU
      obtain ⟨so, sf⟩ := sortOk_of (K := K) (mk := cdat) hwpU (fun v x h => dp_cl h) (alike_cl _) (sortable_cl _) (fun x _ => Nat.le_trans (depth_cl x) (by decide))
      refine ⟨_, rfl, a, _, rfl, SqL.of (by rw [sf]; exact hwsU), so, fun q hq0 => ?_⟩
      refine ⟨q, _, rfl, .inl ⟨SqL.of upd_same, fun l hl => ?_⟩⟩
      exact hq l _ _ ((eH.trans (Ext.upd hq0)).trans (Ext.upd hl)) upd_same (prd_mono (fun _ _ q => q.imm ((Imm.of (Ext.upd hq0)).trans (Imm.of (Ext.upd hl)))) (srt_prd hwpU))
def sp_Listing_str (K : PySem.W.Frag) : Sp := fun vs H Q _ => ∃ p t U, vs = [.ref p] ∧ LisAt K H p t ∧ UOk U ∧ TabOk U t ∧ ∀ H', Ext H H' → Q (.str (strL t)) H'
theorem ok_Listing_str (T : Txt K mg) : C8.Met P w K mg base 6 (He.ga K "Listing") "__str__" (sp_Listing_str K) [] := by
  obtain ⟨fd, F⟩ := T.d_Listing_str
  refine met_of T.c_Listing T.t_Listing_str F (fun _ _ _ _ _ _ us hl => match us, hl with | [_], _ => rfl) sc_Listing_str (fun vs H Q E h => ?_) fun cdv A outer s H vs Q E hr h => ?_
  · obtain ⟨p, t, U, rfl, h1, uo, tok, hq⟩ := h
    rfl
  · have hu := hu_of hr
    have hu64 := hr.units
    obtain ⟨p, t, U, rfl, h1, uo, tok, hq⟩ := h
    refine ⟨_, (pss_one (ps_ret (pe_join pe_str (pe_lc (own := [("entry", 1)]) (by rfl) sc_Listing_str.nd (pi_tup (C8.pe_mt0 (ok_Listing_entries T) hr (by decide) (pv 0))) (blkOk_by (N := N_Listing_str) (sc := defScope s_Listing_str) (by decide +kernel)) (fun _ _ _ _ _ => (pg_name (i := 1) sc_Listing_str.nd rfl (by first | exact Or.inl rfl | exact Or.inr rfl))) (fun _ _ _ _ _ => by exact pts_nil) (fun _ _ _ _ _ => by exact (C8.pe_c (ok_show_entry T) hr (by decide) rfl (pa_cons (pv 1) pa_nil))))))), ?_⟩
    obtain ⟨dx, d, kvs, T1, hins, _⟩ := id h1
    refine ⟨⟨_, rfl⟩, _, rfl, p, dx, _, rfl, hins, rfl, p, t, U, rfl, h1, uo, tok, fun a H1 ws e1 hws hwp => ⟨a, rfl, ⟨ws, SqT.of hws⟩, fun D hD => ?_⟩⟩
    have hl := ents_len tok uo
    refine lc_map (src_tup (xs := ws)) (fun _ => False) (fun m z _ => ∃ e, (entsOf t)[m]? = some e ∧ z = .str (showE e)) (fun _ _ => True) hD (fun z => z) (by rw [prd_len hwp]; exact Nat.le_trans hl (by decide)) (fun m z H H' im h => h) (fun _ _ _ h => h) True.intro (fun m H' _ k _ => SqT.of (Kp.ext k _ _ hws)) (fun _ _ _ _ k => Imm.of (Kp.ext k)) (fun m z H8 H9 hm kp _ hy Q' qq => ?_) fun H8 zs kp hD8 hl8 hr8 _ => ?_
    · obtain ⟨rfl, hz⟩ := hy
      obtain ⟨e, he, hat⟩ := prd_get hwp hz
      exact ⟨rfl, _, rfl, z, e, rfl, hat.imm (Imm.of (Kp.ext kp)), ents_ok tok uo (List.mem_of_getElem? he), fun H' e' => qq _ _ (Kp.of e') ⟨e, he, rfl⟩ True.intro⟩
    · have ez : zs = ((entsOf t).map showE).map V.str := by
        apply List.ext_getElem?
        intro m
        rw [List.map_map, List.getElem?_map]
        cases hm : zs[m]? with
        | none =>
          have := List.getElem?_eq_none_iff.mp hm
          rw [List.getElem?_eq_none (by rw [← prd_len hwp, ← hl8]; exact this)]
          rfl
        | some z =>
          obtain ⟨p, hp1, hp2⟩ := hr8 m z hm
          rw [hp1, hp2]
          rfl
      exact ⟨_, D, (entsOf t).map showE, rfl, rfl, .inl (SqL.of (by rw [← ez]; exact hD8)), strL_sum tok uo, hq _ (e1.trans (Kp.ext kp))⟩
end
end TW
set_option Elab.async false
set_option linter.all false
set_option maxRecDepth 100000
set_option maxHeartbeats 4000000
namespace TW
open PySem PySem.Spec PyProof.Rows L2 LamX
open PySem.W (AllAlike Sortable dataLe alike)
/-! ### data of lists -/
section
variable {α : Type} {mk : α → PyData}
theorem eqvAll_map [DecidableEq α] (h : ∀ a b, PyData.eqv (mk a) (mk b) = decide (a = b)) : ∀ l l' : List α, PyData.eqvAll (l.map mk) (l'.map mk) = decide (l = l')
  | [], [] => by simp [PyData.eqvAll]
  | [], _ :: _ => by simp [PyData.eqvAll]
  | _ :: _, [] => by simp [PyData.eqvAll]
  | p :: l, q :: l' => by
    rw [List.map_cons, List.map_cons, PyData.eqvAll, eqvAll_map h l l', h, Bool.eq_iff_iff]
    simp
theorem eqv_list [DecidableEq α] (h : ∀ a b, PyData.eqv (mk a) (mk b) = decide (a = b)) (l l' : List α) : PyData.eqv (.list (l.map mk)) (.list (l'.map mk)) = decide (l = l') := by
  rw [PyData.eqv, eqvAll_map h]
theorem canLayAll_map : ∀ {l : List α}, (∀ a ∈ l, (mk a).canLay0 = true) → PyData.canLayAll0 (l.map mk) = true
  | [], _ => by simp [PyData.canLayAll0]
  | p :: l, h => by
    rw [List.map_cons, PyData.canLayAll0, canLayAll_map fun q hq => h q (List.mem_cons_of_mem _ hq), h p List.mem_cons_self]
    rfl
theorem depthAll_map {c : Nat} : ∀ {l : List α}, (∀ a ∈ l, (mk a).depth ≤ c) → PyData.depthAll (l.map mk) ≤ c
  | [], _ => by simp [PyData.depthAll]
  | p :: l, h => by
    rw [List.map_cons, PyData.depthAll]
    have h1 := h p List.mem_cons_self
    have h2 := depthAll_map (c := c) fun q hq => h q (List.mem_cons_of_mem _ hq)
    omega
theorem shaped_list {l : List α} {c : Nat} (h1 : ∀ a ∈ l, (mk a).canLay0 = true) (h2 : ∀ a ∈ l, (mk a).depth ≤ c) (hc : c ≤ 60) : SeqAt.shaped (.list (l.map mk)) = true := by
  unfold SeqAt.shaped
  rw [Bool.and_eq_true, decide_eq_true_eq, PyData.canLay0, PyData.depth]
  have := depthAll_map h2
  exact ⟨canLayAll_map h1, by omega⟩
theorem dpAll_of {K : PySem.W.Frag} {H : Hp} {R : V → α → Prop} (hd : ∀ v x, R v x → Dp K H v (mk x)) : ∀ {vs : List V} {xs : List α}, Paired R vs xs → DpAll K H vs (xs.map mk)
  | _, _, .nil => .nil
  | _, _, .cons a t => .cons (hd _ _ a) (dpAll_of hd t)
end
theorem eqv_key (a b : LKey) : PyData.eqv (kdat a) (kdat b) = decide (a = b) := by
  obtain ⟨a1, a2⟩ := a
  obtain ⟨b1, b2⟩ := b
  simp only [kdat, PyData.eqv, PyData.eqvAll, Bool.and_true, Prod.mk.injEq]
  rw [Bool.eq_iff_iff]
  simp
theorem canLay_key {k : LKey} (h : KeyOk k) : (kdat k).canLay0 = true := by
  simp [kdat, PyData.canLay0, PyData.canLayAll0, ok_LET h.house.al]
theorem shaped_keys {ks : List LKey} (h : ∀ k ∈ ks, KeyOk k) : SeqAt.shaped (.list (ks.map kdat)) = true := shaped_list (c := 1) (fun k hk => canLay_key (h k hk)) (fun k _ => depth_key k) (by decide)
theorem dp_key {K : PySem.W.Frag} {H : Hp} {v : V} {k : LKey} (h : KeyAt H v k) : Dp K H v (kdat k) := by
  obtain ⟨a, rfl, h⟩ := h
  exact .tup (SqT.of h) (.cons (.str _) (.cons (.int _) .nil))
theorem ExtN.mut {H H' : Hp} {p : Addr} {o : HO} (e : ExtN H H') (h : H p = none) : ExtN H (upd H' p o) := fun b u hb hn => by
  rw [upd_ne (ne_of_none hb h)]
  exact e b u hb hn
/-! ### lists of things compared -/
theorem ansB_eq {l l' : List Th} (h : l.length = l'.length) : ansB (fun m => decide (l[m]? = l'[m]?)) l.length 0 = decide (l = l') := by
  unfold ansB
  rw [List.drop_zero, Bool.eq_iff_iff, List.all_eq_true, decide_eq_true_eq]
  constructor
  · intro q
    apply List.ext_getElem?
    intro m
    by_cases hm : m < l.length
    · exact of_decide_eq_true (q m (List.mem_range.mpr hm))
    · rw [List.getElem?_eq_none (by omega), List.getElem?_eq_none (by omega)]
  · intro e m _
    rw [e]
    exact decide_eq_true rfl
theorem neB_th {K : PySem.W.Frag} {H : Hp} {r1 r2 : Addr} {vs1 vs2 : List V} {l1 l2 : List Th} {i : Nat} {Q : VK} (h1 : H r1 = some (.lst vs1)) (h2 : H r2 = some (.lst vs2)) (p1 : Paired (ThAt K H) vs1 l1) (p2 : Paired (ThAt K H) vs2 l2) (o1 : ∀ th ∈ l1, Th.ok i th) (o2 : ∀ th ∈ l2, Th.ok i th)
    (q : ∀ H', Ext H H' → Q (.bl (!decide (l1 = l2))) H') : rNeB (DTh K) (.ref r1) (.ref r2) H Q := by
  have n1 := prd_len p1
  have n2 := prd_len p2
  by_cases hl : vs1.length = vs2.length
  · refine ⟨r1, r2, vs1, vs2, rfl, rfl, h1, h2, .inr ⟨hl, fun m => decide (l1[m]? = l2[m]?), fun m x y hx hy => ?_, fun H' e => ?_⟩⟩
    · obtain ⟨th, a1, a2⟩ := prd_get p1 hx
      obtain ⟨th', b1, b2⟩ := prd_get p2 hy
      refine ⟨i, th, th', o1 _ (List.mem_of_getElem? a1), o2 _ (List.mem_of_getElem? b1), a2, b2, ?_⟩
      show decide (l1[m]? = l2[m]?) = _
      rw [a1, b1]
      exact decide_eq_decide.mpr ⟨fun h => Option.some.inj h, fun h => by rw [h]⟩
    · rw [n1, ansB_eq (by omega)]
      exact q H' e
  · refine ⟨r1, r2, vs1, vs2, rfl, rfl, h1, h2, .inl ⟨hl, ?_⟩⟩
    have : decide (l1 = l2) = false := decide_eq_false fun e => hl (by rw [n1, n2, e])
    have z := q H Ext.rfl'
    rw [this] at z
    exact z
section
variable {X : Cx} {K : PySem.W.Frag} {mg : Str → Option Value}
theorem kNeB (T : Txt K mg) (hr : Room 3 X.A) (hK : X.K = K := by rfl) (hm : X.mg = mg := by rfl) : OpR X (compareOp .NotEq) (rNeB (DTh K)) := by
  subst hK hm
  exact op_neB mon_th (eqB_th T) hr
end
/-! ### == by an own __eq__, whatever it does -/
def rEqI (C : Addr) (sp : Sp) : R2 := fun x y H Q => ∃ a b dx dy fs gs, x = .ref a ∧ y = .ref b ∧ H a = some (.ins C dx fs) ∧ H b = some (.ins C dy gs) ∧ sp [.ref a, .ref b] H (fun v H' => ∃ r : Bool, v = .bl r ∧ Q (.bl r) H') C8.E0
section
variable {X : Cx} {n : Nat} {C : Addr} {sp : Sp}
theorem op_eqI (M : C8.Met X.prog X.w X.K X.mg X.base n C "__eq__" sp []) (hr : Room n X.A) : OpR X (compareOp .Eq) (rEqI C sp) := by
  obtain ⟨f, fd, ps, ds, hc, hm, F, hb0, hd0⟩ := M.ex
  cases hd0
  intro pins s σ H x y v u Q I rx ry hq
  obtain ⟨a, c, dx, dy, fs, gs, rfl, rfl, ha, hb', hsp⟩ := hq
  cases rx
  cases ry
  have sb : Sub X n X.A := ⟨hr, rfl⟩
  show wpAny (model X.prog X.w) X.A (richCompare .Eq _ _) (EP X pins σ Q) X.xe s
  obtain ⟨mA, J, _⟩ := ins_get I.hok ha
  obtain ⟨mB, J', _⟩ := ins_get I.hok hb'
  obtain ⟨od, J, _⟩ := J.look
  obtain ⟨od', J', _⟩ := J'.look
  obtain ⟨m, hF⟩ := I.fr
  refine PySem.W.cmp_K (op := .Eq) (tb := .ref C) sb.room.units0 hF I.ok.mod.kin J J'.type (by simp [PySem.W.notFirst]) hm.at_ hm.fn ?_
  have e0 : Env0 X.prog X.w X.K X.mg X.base X.A X.stack s H := by
    have e := I.env0
    exact ⟨by rw [sb.fr]; exact e.frames, e.mod, e.bs, e.bsz, e.funs, e.frf, e.hok, e.bare⟩
  have hl := F.len _ _ _ _ hsp
  have r2 : Vals [V.ref a, V.ref c] [Value.ref a, Value.ref c] := .cons rfl (.cons rfl .nil)
  refine wpAny_call (codeAny_mono (F.run X.A X.stack s H ⟨[.ref a, .ref c], []⟩ [.ref a, .ref c] [.ref a, .ref c] _ C8.E0 sb.room e0 (by
    have := hb0 s [.ref a, .ref c] I.kIn (by simpa using hl)
    simpa using this) r2 hsp) fun r s' hq => ?_)
  cases r with
  | error e => exact False.elim hq
  | ok fl =>
    cases fl with
    | ret w =>
      obtain ⟨z, H', I', rz, r, ez, q⟩ := I.after hq
      subst ez
      cases rz
      exact ⟨.bl r, H', I', rfl, q⟩
    | next => exact False.elim hq
    | brk => exact False.elim hq
    | cont => exact False.elim hq
end
/-! ### two tables, equal -/
def rowEq (t t' : ATab) (k : LKey) : Bool := (List.range 5).all fun i => decide (sortTh (look t k i) = sortTh (look t' k i))
def eqL (t t' : ATab) : Bool := decide (sortK (t.map (·.1)) = sortK (t'.map (·.1))) && (t.map (·.1)).all (rowEq t t')
theorem hasK_of {t : ATab} {k : LKey} (h : k ∈ t.map (·.1)) : hasK t k = true := by
  obtain ⟨r, hr, e⟩ := List.mem_map.mp h
  exact hasK_iff.mpr ⟨r, hr, e⟩
theorem keys_same {t t' : ATab} (h : sortK (t.map (·.1)) = sortK (t'.map (·.1))) {k : LKey} : k ∈ t.map (·.1) ↔ k ∈ t'.map (·.1) := by
  have a : k ∈ sortK (t.map (·.1)) ↔ k ∈ t.map (·.1) := List.mem_mergeSort
  have b : k ∈ sortK (t'.map (·.1)) ↔ k ∈ t'.map (·.1) := List.mem_mergeSort
  rw [← a, h, b]
end TW
set_option Elab.async false
set_option linter.all false
set_option maxRecDepth 100000
set_option maxHeartbeats 4000000
namespace TW
open PySem PySem.Spec PyProof.Rows L2
section
variable {P : Program} {w : World} {K : PySem.W.Frag} {mg : Str → Option Value} {base : Heap}
open LamX NdefX
def sp_Listing_eq (K : PySem.W.Frag) : Sp := fun vs H Q _ => ∃ p p' t t' U, vs = [.ref p, .ref p'] ∧ LisU K H p t ∧ LisU K H p' t' ∧ UOk U ∧ TabOk U t ∧ TabOk U t' ∧ Tabs (TT K) H ∧ ∀ H', ExtN H H' → Tabs (TT K) H' → Q (.bl (eqL t t')) H'
section
variable {K : PySem.W.Frag} {H : Hp} {kvs : List (List Key × V)} {T1 : Tab}
theorem keys1 (htab : TabAt K H kvs T1) : PySem.W.AllAlike (kvs.map fun p => tdata p.1) := by rw [keys_dat htab]; exact alike_keys _
theorem keys2 (htab : TabAt K H kvs T1) : PySem.W.Sortable (kvs.map fun p => tdata p.1) := by rw [keys_dat htab]; exact sortable_keys _
theorem keys3 (htab : TabAt K H kvs T1) : ∀ p ∈ kvs, (tdata p.1).depth ≤ 40 := fun kv hkv => by
  have : tdata kv.1 ∈ kvs.map fun p => tdata p.1 := List.mem_map.mpr ⟨kv, hkv, rfl⟩
  rw [keys_dat htab] at this
  obtain ⟨k, _, e⟩ := List.mem_map.mp this
  rw [← e]
  exact Nat.le_trans (depth_key k) (by decide)
end
theorem key_sh {U : List Ent} {t : ATab} (tok : TabOk U t) (uo : UOk U) : SeqAt.shaped (.list ((sortK (t.map (·.1))).map kdat)) = true := shaped_keys fun k hk => by
  obtain ⟨r, hr, e⟩ := List.mem_map.mp (List.mem_mergeSort.mp hk)
  rw [← e]
  exact tok.okK uo hr
theorem ok_Listing_eq (T : Txt K mg) (TB : TabB base mg (tC' K) (tP K)) : C8.Met P w K mg base 7 (He.ga K "Listing") "__eq__" (sp_Listing_eq K) [] := by
  obtain ⟨fd, F⟩ := T.d_Listing_eq
  refine met_of T.c_Listing T.t_Listing_eq F (fun _ _ _ _ _ _ us hl => match us, hl with | [_, _], _ => rfl) sc_Listing_eq (fun vs H Q E h => ?_) fun cdv A outer s H vs Q E hr h => ?_
  · obtain ⟨p, p', t, t', U, rfl, hu1, hu2, uo, tok, tok', hTT, hq⟩ := h
    rfl
  · have hu := hu_of hr
    have hu64 := hr.units
    obtain ⟨p, p', t, t', U, rfl, hu1, hu2, uo, tok, tok', hTT, hq⟩ := h
    refine ⟨_, (pss_cons (ps_if (PW.pt (pw_or (pt_not (pt_val (pe_callB call_isi (by rfl) T.f_isinstance (by decide +kernel) (pa_cons (pv 1) (pa_cons (pe_glob (v := .ref (He.ga K "Listing")) rfl T.g_Listing rfl) pa_nil))))) (pw_or1 (pt_cmpR (op_neD hu64) (pe_callB (cr_sortT rfl hu64) (by rfl) T.f_sorted (by decide +kernel) (pa_cons (pe_fld (pv 0) rfl) pa_nil)) (pe_callB (cr_sortT rfl hu64) (by rfl) T.f_sorted (by decide +kernel) (pa_cons (pe_fld (pv 1) rfl) pa_nil)) (nomark _))))) (pss_one (ps_ret pe_bl)) pss_nil)
    (pss_cons (ps_lock (ps_for PassesOwn.never rfl (pi_keys (pe_fld (pv 0) rfl)) (pg_tup (by rfl) (pgs_cons (pg_name (i := 2) sc_Listing_eq.nd rfl (by first | exact Or.inl rfl | exact Or.inr rfl)) (pgs_cons (pg_name (i := 3) sc_Listing_eq.nd rfl (by first | exact Or.inl rfl | exact Or.inr rfl)) pgs_nil)))
    (pss_one (ps_if (pt_val (pe_callB (cr_any rfl) (by rfl) T.f_any (by decide +kernel) (pa_cons (pe_lc (own := [("field", 4)]) (by rfl) sc_Listing_eq.nd (pi_tup (pe_glob (v := .ref (He.ga K "FIELDS")) rfl T.g_FIELDS rfl)) (blkOk_by (N := N_Listing_eq) (sc := defScope s_Listing_eq) (by decide +kernel)) (fun _ _ _ _ _ => (pg_name (i := 4) sc_Listing_eq.nd rfl (by first | exact Or.inl rfl | exact Or.inr rfl))) (fun _ _ _ _ _ => by exact pts_nil) (fun _ _ _ _ _ => by exact (pe_cmpR (kNeB T (hr.mono (by decide))) (C8.pe_mt (ok_Listing_told T TB) hr (by decide) (pv 0) (pa_cons (pv 2) (pa_cons (pv 3) (pa_cons (pv 4) pa_nil)))) (C8.pe_mt (ok_Listing_told T TB) hr (by decide) (pv 1) (pa_cons (pv 2) (pa_cons (pv 3) (pa_cons (pv 4) pa_nil)))) (nomark _)))) pa_nil))) (pss_one (ps_ret pe_bl)) pss_nil))))
    (pss_one (ps_ret pe_bl)))), ?_⟩
    obtain ⟨dx, d, kvs, T1, hins, hdic, htab, ht1⟩ := id hu1
    obtain ⟨dx', d', kvs', T2, hins', hdic', htab', ht2⟩ := id hu2
    subst ht1 ht2
    refine ⟨_, rfl, ⟨_, _, _, _, _, rfl, .own _, T.ty_Listing hins', T.kit 13 rfl, true, rfl, iteF ?_⟩⟩
    refine ⟨_, rfl, p, _, dx, _, _, rfl, hins, T.c_Listing, T.n_Listing_things, rfl, d, kvs, rfl, .inl hdic, keys1 htab, keys2 htab, keys3 htab, fun a as ha hka => ?_⟩
    have hwp := srt_keys htab hka
    generalize srt (keyVD kvs as) = ws at hwp
    have e1 : Ext H (upd H a (.lst ws)) := Ext.upd ha
    refine ⟨_, rfl, p', _, dx', _, _, rfl, e1 _ _ hins', T.c_Listing, T.n_Listing_things, rfl, d', kvs', rfl, .inl (e1 _ _ hdic'), keys1 (htab'.ext e1), keys2 (htab'.ext e1), keys3 (htab'.ext e1), fun a' as' ha' hka' => ?_⟩
    have hwp' := srt_keys (htab'.ext e1) hka'
    generalize srt (keyVD kvs' as') = ws' at hwp'
    have e2 : Ext H (upd (upd H a (.lst ws)) a' (.lst ws')) := e1.trans (Ext.upd ha')
    refine ⟨_, _, .lst (SqL.of ((Ext.upd ha') _ _ upd_same)) (dpAll_of (fun v k h => dp_key (KeyAt.ext (e1.trans (Ext.upd ha')) h)) hwp), .lst (SqL.of upd_same) (dpAll_of (fun v k h => dp_key (KeyAt.ext (Ext.upd ha') h)) hwp'), key_sh tok uo, key_sh tok' uo, _, rfl, ?_⟩
    rw [eqv_list eqv_key]
    generalize hH2 : upd (upd H a (.lst ws)) a' (.lst ws') = H2 at e2
    by_cases hk : sortK ((absT T1).map (·.1)) = sortK ((absT T2).map (·.1))
    case neg =>
      refine if_ndecT hk ?_
      have : eqL (absT T1) (absT T2) = false := by unfold eqL; rw [decide_eq_false hk]; rfl
      have z := hq H2 (ExtN.of e2) (hTT.ext e2)
      rw [this] at z
      exact z
    refine if_ndecF hk ?_
    refine next_ok ?_
    dsimp only
    have u1 := hu1.ext e2
    have u2 := hu2.ext e2
    refine ⟨d, .dT kvs, e2 _ _ hdic, True.intro, fun od => ?_⟩
    have hd2 := e2 _ _ hdic
    have l1 : LisAt K (upd H2 d (.frz od (.dT kvs))) p (absT T1) := u1.at_.frz hd2
    have l2 : LisAt K (upd H2 d (.frz od (.dT kvs))) p' (absT T2) := u2.at_.frz hd2
    have hinsB : upd H2 d (.frz od (.dT kvs)) p = some (.ins (cListing K) dx [("things", .ref d)]) := by rw [upd_ne (ne_of (e2 _ _ hins) hd2 fun z => nomatch z)]; exact e2 _ _ hins
    have hinsB' : upd H2 d (.frz od (.dT kvs)) p' = some (.ins (cListing K) dx' [("things", .ref d')]) := by rw [upd_ne (ne_of (e2 _ _ hins') hd2 fun z => nomatch z)]; exact e2 _ _ hins'
    have hTB : Tabs (TT K) (upd H2 d (.frz od (.dT kvs))) := fun x hx => by
      obtain ⟨ps, a1, a2, a3⟩ := hTT.ext e2 x hx
      refine ⟨ps, by rw [upd_ne (ne_of a1 hd2 fun z => nomatch z)]; exact a1, a2, fun pos cv hc => ?_⟩
      obtain ⟨c, b1, b2⟩ := a3 pos cv hc
      refine ⟨c, b1, ?_⟩
      rw [upd_ne (ne_of b2 hd2 fun z => nomatch z)]
      exact b2
    have hfz : ∀ ps : Array Value, HO.frz od (.dT kvs) ≠ .tbl ps := fun _ z => nomatch z
    have hdd : ∀ {H'}, ExtN (upd H2 d (.frz od (.dT kvs))) H' → H' d = some (.frz od (.dT kvs)) := fun e => e _ _ upd_same hfz
    have htabB : ∀ {H'}, ExtN (upd H2 d (.frz od (.dT kvs))) H' → TabAt K H' kvs T1 := fun e => ((htab.ext e2).frz hd2).extN e
    refine ⟨_, rfl, p, _, dx, _, _, rfl, hinsB, T.c_Listing, T.n_Listing_things, rfl, d, od, rfl, .inr ⟨kvs, upd_same, ?_⟩⟩
    refine for_src src_keysT (fun i σ H' => (∃ s2 s3 s4, σ = [some (.ref p), some (.ref p'), s2, s3, s4]) ∧ ExtN (upd H2 d (.frz od (.dT kvs))) H' ∧ Tabs (TT K) H' ∧ (((absT T1).map (fun r => r.1)).take i).all (rowEq (absT T1) (absT T2)) = true) ⟨⟨_, _, _, rfl⟩, ExtN.refl _, hTB, rfl⟩ (fun i σ H' _ h => hdd h.2.1) (fun i x σ H3 H4 hi h hy => ?_) fun σ H' h => ?_
    · obtain ⟨rfl, k0, v, q, hkv, rfl, hqk⟩ := hy
      obtain ⟨⟨s2, s3, s4, rfl⟩, e3, t3, hall⟩ := h
      obtain ⟨key, r, hT, rfl, hrow, hab⟩ := tab_at (htabB e3) hkv
      have hkm : key ∈ (absT T1).map (·.1) := List.mem_map.mpr ⟨_, List.mem_of_getElem? hab, rfl⟩
      have hk1 : hasK (absT T1) key = true := hasK_of hkm
      have hk2 : hasK (absT T2) key = true := hasK_of ((keys_same hk).mp hkm)
      have hki : ((absT T1).map (·.1))[i]? = some key := by rw [List.getElem?_map, hab]; rfl
      have ends : ∀ {H'}, ExtN (upd H2 d (.frz od (.dT kvs))) H' → Tabs (TT K) H' → ExtN H (upd H' d (.dT kvs)) ∧ Tabs (TT K) (upd H' d (.dT kvs)) := fun e t => ⟨(ExtN.of e2).trans (extN_frz hd2 hfz e), fun x hx => by
        obtain ⟨ps, a1, a2, a3⟩ := t x hx
        refine ⟨ps, by rw [upd_ne (ne_of a1 (hdd e) fun z => nomatch z)]; exact a1, a2, fun pos cv hc => ?_⟩
        obtain ⟨c, b1, b2⟩ := a3 pos cv hc
        refine ⟨c, b1, ?_⟩
        rw [upd_ne (ne_of b2 (hdd e) fun z => nomatch z)]
        exact b2⟩
      refine ⟨q, _, rfl, SqT.of hqk, rfl, _, _, rfl, _, _, rfl, rfl, ?_⟩
      refine ⟨_, rfl, ⟨_, T.fields _⟩, fun D hD => ?_⟩
      refine lc_src (src_tup (xs := [.str "code", .str "title", .str "players", .str "day", .str "length"])) (fun j H' => ExtN H4 H' ∧ Tabs (TT K) H' ∧ H' D = some (.lst (((List.range j).map fun i => !decide (sortTh (look (absT T1) key i) = sortTh (look (absT T2) key i))).map V.bl))) ⟨ExtN.of (Ext.upd hD), t3.ext (Ext.upd hD), upd_same⟩ (fun j H' _ h => T.fields _) (fun j x H6 H7 hj h hy => ?_) fun H6 h => ?_
      · obtain ⟨rfl, hx⟩ := hy
        obtain ⟨e6, t6, hD6⟩ := h
        obtain ⟨f, rfl, hf⟩ := fld_str hx
        have g6 := e3.trans e6
        refine ⟨rfl, _, rfl, p, dx, _, rfl, g6 _ _ hinsB (fun _ z => nomatch z), rfl, _, rfl, _, rfl, _, rfl, p, absT T1, key, j, f, U, rfl, l1.extN g6, hf, uo, tok, hk1, t6, fun r1 H8 e8 t8 fr8 ⟨vs1, hr1, hp1⟩ => ?_⟩
        have g8 := g6.trans e8
        refine ⟨_, rfl, p', dx', _, rfl, g8 _ _ hinsB' (fun _ z => nomatch z), rfl, _, rfl, _, rfl, _, rfl, p', absT T2, key, j, f, U, rfl, l2.extN g8, hf, uo, tok', hk2, t8, fun r2 H9 e9 t9 fr9 ⟨vs2, hr2, hp2⟩ => ?_⟩
        refine neB_th (i := j) (e9 _ _ hr1 fun _ z => nomatch z) hr2 (prd_mono (fun _ _ z => z.imm (ExtN.imm e9)) hp1) hp2 (fun th h => look_ok tok uo (List.mem_mergeSort.mp h)) (fun th h => look_ok tok' uo (List.mem_mergeSort.mp h)) fun H10 e10 => ?_
        have hD10 := e10 _ _ (e9 _ _ (e8 _ _ hD6 fun _ z => nomatch z) fun _ z => nomatch z)
        refine ⟨_, hD10, ?_, ExtN.mut (((e6.trans e8).trans e9).trans (ExtN.of e10)) hD, ?_, ?_⟩
        · rw [List.length_map, List.length_map, List.length_range]
          exact Nat.lt_trans hj (by show 5 < sizeLine; decide)
        · intro x hx
          obtain ⟨ps, a1, a2, a3⟩ := t9.ext e10 x hx
          refine ⟨ps, by rw [upd_ne (ne_of a1 hD10 fun z => nomatch z)]; exact a1, a2, fun pos cv hc => ?_⟩
          obtain ⟨c, b1, b2⟩ := a3 pos cv hc
          refine ⟨c, b1, ?_⟩
          rw [upd_ne (ne_of b2 hD10 fun z => nomatch z)]
          exact b2
        · rw [upd_same, List.range_succ, List.map_append, List.map_append]
          rfl
      · obtain ⟨e6, t6, hD6⟩ := h
        refine ⟨D, _, rfl, SqL.of hD6, ?_⟩
        have hany : ((List.range ([.str "code", .str "title", .str "players", .str "day", .str "length"] : List V).length).map fun i => !decide (sortTh (look (absT T1) key i) = sortTh (look (absT T2) key i))).any id = !rowEq (absT T1) (absT T2) key := by
          rw [List.any_map]
          unfold rowEq
          rw [List.not_all_eq_any_not]
          rfl
        rw [hany]
        refine ⟨_, rfl, ?_⟩
        cases hre : rowEq (absT T1) (absT T2) key with
        | false =>
          refine iteT ⟨hdd (e3.trans e6), ?_⟩
          have z := hq _ (ends (e3.trans e6) t6).1 (ends (e3.trans e6) t6).2
          have : eqL (absT T1) (absT T2) = false := by
            unfold eqL
            rw [Bool.and_eq_false_iff]
            refine .inr (Bool.eq_false_iff.mpr fun z => ?_)
            have := List.all_eq_true.mp z key hkm
            rw [hre] at this
            cases this
          rw [this] at z
          exact z
        | true =>
          refine iteF (next_ok ⟨⟨_, _, _, rfl⟩, e3.trans e6, t6, ?_⟩)
          rw [List.take_add_one, hki, Option.toList_some, List.all_append, hall]
          simp [hre]
    · obtain ⟨⟨s2, s3, s4, rfl⟩, e3, t3, hall⟩ := h
      have hlen : kvs.length = ((absT T1).map (fun r => r.1)).length := by rw [List.length_map]; exact (tab_len htab).symm
      rw [hlen, List.take_length] at hall
      refine ⟨hdd e3, ?_⟩
      have : eqL (absT T1) (absT T2) = true := by
        unfold eqL
        rw [decide_eq_true hk, hall]
        rfl
      rw [this] at hq
      refine hq _ ((ExtN.of e2).trans (extN_frz hd2 hfz e3)) fun x hx => ?_
      obtain ⟨ps, a1, a2, a3⟩ := t3 x hx
      refine ⟨ps, by rw [upd_ne (ne_of a1 (hdd e3) fun z => nomatch z)]; exact a1, a2, fun pos cv hc => ?_⟩
      obtain ⟨c, b1, b2⟩ := a3 pos cv hc
      refine ⟨c, b1, ?_⟩
      rw [upd_ne (ne_of b2 (hdd e3) fun z => nomatch z)]
      exact b2
end
end TW
set_option Elab.async false
set_option linter.all false
set_option maxRecDepth 100000
set_option maxHeartbeats 4000000
namespace TW
open PySem PySem.Spec PyProof.Rows L2
section
variable {P : Program} {w : World} {K : PySem.W.Frag} {mg : Str → Option Value} {base : Heap}

/-- a hand: its turns are at most n -/
def HandAt (H : Hp) (h : Addr) (n : Nat) : Prop := ∃ g s t : Int, H h = some (.lst [.int g, .int s, .int t]) ∧ 0 ≤ s ∧ s < 2 ^ 61 ∧ 0 ≤ t ∧ t ≤ n
theorem HandAt.ext {H H' : Hp} {h : Addr} {n : Nat} (e : Ext H H') (a : HandAt H h n) : HandAt H' h n := let ⟨g, s, t, q, r⟩ := a; ⟨g, s, t, e _ _ q, r⟩
theorem HandAt.mono {H : Hp} {h : Addr} {n m : Nat} (l : n ≤ m) (a : HandAt H h n) : HandAt H h m := let ⟨g, s, t, q, r1, r2, r3, r4⟩ := a; ⟨g, s, t, q, r1, r2, r3, by omega⟩
/-- only the hand changes -/
abbrev KpH (h : Addr) : Hp → Hp → Prop := Kp (· = h)
theorem KpH.imm {H H' : Hp} {h : Addr} {n : Nat} (e : KpH h H H') (a : HandAt H h n) : Imm H H' := by
  obtain ⟨g, s, t, q, _⟩ := a
  refine Imm.kp e fun b o hb ho => ?_
  subst hb
  rw [q] at ho
  rw [← Option.some.inj ho]
  rfl
def p60 : Int := (10 : Int) ^ (60 : Int).toNat
theorem p60_pos : 0 < p60 * p60 * p60 := by decide +kernel
theorem p60_mul : CMulW p60 p60 ∧ CMulW (p60 * p60) p60 := by unfold CMulW; decide +kernel
def sp_law_hand (K : PySem.W.Frag) : Sp := fun vs H Q _ => ∃ (a : Addr) (xs : List Int) (k : Int), vs = [.ref a, .int k] ∧ SqL K H a (xs.map V.int) ∧ 0 ≤ k ∧ xs.length ≤ 1000 ∧ ∀ h H', Ext H H' → H h = none → HandAt H' h 0 → Q (.ref h) H'
theorem ok_law_hand (T : Txt K mg) : C8.Cal P w K mg base 1 "_law_hand" (sp_law_hand K) [] := by
  obtain ⟨fd, F⟩ := T.d_law_hand
  refine cal_of F T.g_law_hand (fun _ _ _ _ _ _ us hl => match us, hl with | [_, _], _ => rfl) sc_law_hand (fun vs H Q E h => ?_) fun cdv A outer s H vs Q E hr h => ?_
  · obtain ⟨a, xs, k, rfl, ha, hk, hlen, hq⟩ := h
    rfl
  · have hu := hu_of hr
    have hu64 := hr.units
    obtain ⟨a, xs, k, rfl, ha, hk, hlen, hq⟩ := h
    refine ⟨_, (pss_cons (ps_set (i := 2) sc_law_hand.nd rfl (by first | exact Or.inl rfl | exact Or.inr rfl) (pe_ifExp (pt_cmpR op_lt (pv 1) (pe_callB call_len (by rfl) T.f_len (by decide +kernel) (pa_cons (pv 0) pa_nil)) (nomark _)) (pe_callB call_abs (by rfl) T.f_abs (by decide +kernel) (pa_cons (pe_ix ix_list (pv 0) (pv 1) (fun _ _ => rfl)) pa_nil)) pe_int))
    (pss_cons (ps_set (i := 3) sc_law_hand.nd rfl (by first | exact Or.inl rfl | exact Or.inr rfl) (pe_ifExp (pt_cmpR op_ge (pv 2) (pe_op op_pow pe_int pe_int) (nomark _)) (pe_op op_mod (pv 2) (pe_op op_mulW (pe_op op_mulW (pe_op op_pow pe_int pe_int) (pe_op op_pow pe_int pe_int)) (pe_op op_pow pe_int pe_int))) pe_int))
    (pss_one (ps_ret (pe_lst (pa_cons (pv 3) (pa_cons (pe_op op_mod (pe_op op_add (pe_op op_add (pe_op op_mul (pe_op op_mod (pv 2) pe_int) pe_int) (pe_op op_mul pe_int (pv 1))) pe_int) pe_int) (pa_cons pe_int pa_nil)))))))), ?_⟩
    refine seq_cut (fun σ H' => ∃ c : Int, σ = [some (.ref a), some (.int k), some (.int c), none] ∧ H' = H) (fun N hN => ?_) (fun σ H' hP => ?_)
    · refine ⟨_, rfl, _, rfl, _, _, rfl, .inl ⟨_, ha, rfl⟩, _, _, rfl, rfl, _, rfl, ?_⟩
      by_cases hlt : k < ((xs.map V.int).length : Int)
      · obtain ⟨n, rfl⟩ : ∃ n : Nat, k = n := ⟨k.toNat, by omega⟩
        rw [List.length_map] at hlt
        have hn : n < xs.length := by omega
        refine if_decT (by rw [List.length_map]; exact hlt) ⟨_, rfl, _, rfl, a, _, _, _, rfl, rfl, ha, atI_nat (v := .int xs[n]) (by rw [List.getElem?_map, List.getElem?_eq_getElem hn]; rfl), _, rfl, hN _ _ ⟨_, rfl, rfl⟩⟩
      · exact if_decF hlt (hN _ _ ⟨_, rfl, rfl⟩)
    obtain ⟨c, rfl, rfl⟩ := hP
    refine seq_cut (fun σ H'' => ∃ g : Int, σ = [some (.ref a), some (.int k), some (.int c), some (.int g)] ∧ H'' = H') (fun N hN => ?_) (fun σ H'' hP => ?_)
    · refine ⟨_, rfl, _, _, rfl, rfl, ⟨by decide, by decide, by decide⟩, _, _, rfl, rfl, _, rfl, ?_⟩
      by_cases hg : (10 : Int) ^ (18 : Int).toNat ≤ c
      · exact if_decT hg ⟨_, rfl, _, _, rfl, rfl, ⟨by decide, by decide, by decide⟩, _, _, rfl, rfl, ⟨by decide, by decide, by decide⟩, _, _, rfl, rfl, p60_mul.1, _, _, rfl, rfl, ⟨by decide, by decide, by decide⟩, _, _, rfl, rfl, p60_mul.2, _, _, rfl, rfl, p60_pos, hN _ _ ⟨_, rfl, rfl⟩⟩
      · exact if_decF hg (hN _ _ ⟨_, rfl, rfl⟩)
    obtain ⟨g, rfl, rfl⟩ := hP
    refine ⟨_, rfl, _, rfl, _, _, rfl, rfl, (by dsimp only; decide), _, _, rfl, rfl, .inr ⟨by decide, by decide⟩, _, rfl, _, _, rfl, rfl, .inl ⟨by decide, by decide⟩, _, _, rfl, rfl, _, _, rfl, rfl, _, _, rfl, rfl, (by dsimp only; decide), by show 3 ≤ sizeLine; decide, fun p hp => ?_⟩
    refine hq p _ (Ext.upd hp) hp ⟨_, _, 0, upd_same, Int.emod_nonneg _ (by decide), Int.lt_of_lt_of_le (Int.emod_lt_of_pos _ (by decide)) (by decide), by decide, by decide⟩
def sp_law_take (K : PySem.W.Frag) : Sp := fun vs H Q _ => ∃ (h : Addr) (n : Nat) (m : Int), vs = [.ref h, .int m] ∧ HandAt H h n ∧ n ≤ 1000000 ∧ 1 ≤ m ∧ m < 1073741824 ∧ ∀ (r : Int) H', KpH h H H' → HandAt H' h (n + 1) → 0 ≤ r → r < m → Q (.int r) H'
theorem ok_law_take (T : Txt K mg) : C8.Cal P w K mg base 1 "_law_take" (sp_law_take K) [] := by
  obtain ⟨fd, F⟩ := T.d_law_take
  refine cal_of F T.g_law_take (fun _ _ _ _ _ _ us hl => match us, hl with | [_, _], _ => rfl) sc_law_take (fun vs H Q E h => ?_) fun cdv A outer s H vs Q E hr h => ?_
  · obtain ⟨h, n, m, rfl, ⟨g, st, t, hh, hs0, hs1, ht0, ht1⟩, hn, hm0, hm1, hq⟩ := h
    rfl
  · have hu := hu_of hr
    have hu64 := hr.units
    obtain ⟨h, n, m, rfl, ⟨g, st, t, hh, hs0, hs1, ht0, ht1⟩, hn, hm0, hm1, hq⟩ := h
    refine ⟨_, (pss_cons (ps_if (pt_cmpR op_gt (pe_ix ix_list (pv 0) pe_int (fun _ _ => rfl)) pe_int (nomark _)) (pss_cons (ps_set (i := 7) sc_law_take.nd rfl (by first | exact Or.inl rfl | exact Or.inr rfl) (pe_op op_mod (pe_ix ix_list (pv 0) pe_int (fun _ _ => rfl)) (pv 1)))
    (pss_cons (ps_asg (pe_op op_fdiv (pe_ix ix_list (pv 0) pe_int (fun _ _ => rfl)) (pv 1)) (pg_sub (pv 0) pe_int set_list))
    (pss_one (ps_ret (pv 7))))) pss_nil)
    (pss_cons (ps_set (i := 2) sc_law_take.nd rfl (by first | exact Or.inl rfl | exact Or.inr rfl) (pe_op op_add (pe_ix ix_list (pv 0) pe_int (fun _ _ => rfl)) pe_int))
    (pss_cons (ps_asg (pv 2) (pg_sub (pv 0) pe_int set_list))
    (pss_cons (ps_set (i := 3) sc_law_take.nd rfl (by first | exact Or.inl rfl | exact Or.inr rfl) (pe_op op_add (pe_ix ix_list (pv 0) pe_int (fun _ _ => rfl)) (pe_op op_mul pe_int (pv 2))))
    (pss_cons (ps_set (i := 4) sc_law_take.nd rfl (by first | exact Or.inl rfl | exact Or.inr rfl) (pe_op op_add (pe_op op_add (pe_op op_mod (pe_ix ix_list (pv 0) pe_int (fun _ _ => rfl)) pe_int) (pe_op op_mul pe_int (pv 2))) pe_int))
    (pss_cons (ps_set (i := 5) sc_law_take.nd rfl (by first | exact Or.inl rfl | exact Or.inr rfl) (pe_op op_mod (pe_op op_mul (pv 3) (pv 4)) pe_int))
    (pss_cons (ps_set (i := 6) sc_law_take.nd rfl (by first | exact Or.inl rfl | exact Or.inr rfl) (pe_op op_add (pe_op op_add (pe_op op_mod (pv 5) pe_int) (pe_op op_mul pe_int (pv 2))) pe_int))
    (pss_one (ps_ret (pe_op op_mod (pe_op op_fdiv (pe_op op_mod (pe_op op_mul (pe_op op_add (pv 5) pe_int) (pv 6)) pe_int) pe_int) (pv 1))))))))))), ?_⟩
    refine ⟨_, rfl, h, _, 0, _, rfl, rfl, SqL.of hh, rfl, _, _, rfl, rfl, _, rfl, ?_⟩
    by_cases hg : 0 < g
    · refine if_decT hg ?_
      refine ⟨_, rfl, h, _, 0, _, rfl, rfl, SqL.of hh, rfl, _, rfl, _, _, rfl, rfl, (by show 0 < m; omega), ?_⟩
      refine next_ok ?_
      dsimp only
      refine ⟨_, rfl, h, _, 0, _, rfl, rfl, SqL.of hh, rfl, _, rfl, _, _, rfl, rfl, ⟨by show 0 < m; omega, hm1⟩, _, rfl, h, _, 0, 0, rfl, rfl, hh, rfl, ?_⟩
      refine next_ok ?_
      dsimp only
      exact ⟨_, rfl, hq _ _ (Kp.rfl'.at_ rfl) ⟨_, _, _, upd_same, hs0, hs1, ht0, by omega⟩ (Int.emod_nonneg _ (by omega)) (Int.emod_lt_of_pos _ (by omega))⟩
    refine if_decF hg ?_
    refine next_ok ?_
    dsimp only
    refine ⟨_, rfl, h, _, 2, _, rfl, rfl, SqL.of hh, rfl, _, _, rfl, rfl, ?_⟩
    refine next_ok ?_
    dsimp only
    refine ⟨_, rfl, _, rfl, h, _, 2, 2, rfl, rfl, hh, rfl, ?_⟩
    refine next_ok ?_
    dsimp only
    generalize hH1 : upd H h _ = H1
    have k1 : KpH h H H1 := by rw [← hH1]; exact Kp.rfl'.at_ rfl
    have hh1 : H1 h = some (.lst [.int g, .int st, .int (t + 1)]) := by rw [← hH1]; exact upd_same
    refine ⟨_, rfl, h, _, 1, _, rfl, rfl, SqL.of hh1, rfl, _, rfl, _, _, rfl, rfl, .inl ⟨by decide, by decide⟩, _, _, rfl, rfl, ?_⟩
    refine next_ok ?_
    dsimp only
    refine ⟨_, rfl, h, _, 1, _, rfl, rfl, SqL.of hh1, rfl, _, _, rfl, rfl, (by dsimp only; decide), _, rfl, _, _, rfl, rfl, .inl ⟨by decide, by decide⟩, _, _, rfl, rfl, _, _, rfl, rfl, ?_⟩
    refine next_ok ?_
    dsimp only
    refine ⟨_, rfl, _, rfl, _, _, rfl, rfl, .inl ⟨by omega, by omega⟩, _, _, rfl, rfl, (by dsimp only; decide), ?_⟩
    refine next_ok ?_
    dsimp only
    generalize hmx : ((st + 104729 * (t + 1)) * (st % 7919 + 15485863 * (t + 1) + 17)) % 2305843009213693951 = mx
    have mx0 : 0 ≤ mx := by rw [← hmx]; exact Int.emod_nonneg _ (by decide)
    have mx1 : mx < 2305843009213693951 := by rw [← hmx]; exact Int.emod_lt_of_pos _ (by decide)
    refine ⟨_, rfl, _, _, rfl, rfl, (by dsimp only; decide), _, rfl, _, _, rfl, rfl, .inl ⟨by decide, by decide⟩, _, _, rfl, rfl, _, _, rfl, rfl, ?_⟩
    refine next_ok ?_
    dsimp only
    refine ⟨_, rfl, _, _, rfl, rfl, _, rfl, _, _, rfl, rfl, .inl ⟨by omega, by omega⟩, _, _, rfl, rfl, (by dsimp only; decide), _, _, rfl, rfl, ⟨by decide, by decide⟩, _, rfl, _, _, rfl, rfl, (by show 0 < m; omega), ?_⟩
    exact hq _ _ k1 ⟨_, _, _, hh1, hs0, hs1, by omega, by omega⟩ (Int.emod_nonneg _ (by omega)) (Int.emod_lt_of_pos _ (by omega))
end
end TW
set_option Elab.async false
set_option linter.all false
set_option maxRecDepth 100000
set_option maxHeartbeats 4000000
namespace TW
open PySem PySem.Spec PyProof.Rows L2
/-! ### list(text), text or list by an index -/
def rListS : List V → Hp → VK → Prop := fun xs H Q => ∃ x : Str, xs = [V.str x] ∧ x.cps.size ≤ sizeLine ∧ ∀ p, H p = none → Q (.ref p) (upd H p (.lst (x.cps.toList.map fun c => V.str ⟨#[c]⟩)))
section
variable {X : Cx}
theorem call_listS (hc : X.calm = true) : CallR X (.type "list") rListS := by
  intro pins s σ H xs us Q I r h
  obtain ⟨x, rfl, hx, q⟩ := h
  obtain ⟨u, rfl, t, rfl⟩ := vals1 r
  refine PySem.call_list_str (I.ok.hd hc) x t (fun h' tk acc' c' kp e it => ?_) hx
  have rv : Vals (x.cps.toList.map fun c => V.str ⟨#[c]⟩) acc'.toList := by
    refine vals_of_idx _ _ (by rw [Array.length_toList, List.length_map, Array.length_toList]; exact it.1) fun j u hj => ?_
    obtain ⟨c, t, h1, h2⟩ := it.2 j u (by rw [← Array.getElem?_toList]; exact hj)
    refine ⟨.str ⟨#[c]⟩, ?_, ?_⟩
    · rw [List.getElem?_map, Array.getElem?_toList, h1]; rfl
    · rw [h2]; exact ⟨_, rfl⟩
  refine ⟨.ref s.heap.objs.size, _, I.laid (t' := tk) (o := .lst (x.cps.toList.map fun c => V.str ⟨#[c]⟩)) kp (Nat.le_refl _) ?_, rfl, q _ (I.hok.fresh (Nat.le_refl _))⟩
  exact ⟨by rw [List.length_map, Array.length_toList]; exact hx, acc'.toList, c', rv, by rw [Array.toArray_toList]; exact e⟩
def rIxB (K : PySem.W.Frag) : R2 := fun x y H Q => rIxL K x y H Q ∨ rIxS x y H Q
theorem ix_both {K : PySem.W.Frag} (hK : X.K = K := by rfl) : IxR X (rIxB K) := by
  subst hK
  intro value slice pins s σ H x y v u Q I rx ry h hs
  rcases h with h | h
  · exact ix_list value slice pins s σ H x y v u Q I rx ry h hs
  · exact ix_str value slice pins s σ H x y v u Q I rx ry h hs
end
/-! ### texts with blanks inside only -/
structure TxtOk (l : List Nat) : Prop where
  al : ∀ c ∈ l, c ∈ sSIG.cps.toList
  first : l[0]? ≠ some 32
  dd : ∀ i : Nat, l[i]? = some 32 → l[i + 1]? ≠ some 32
def LastOk (l : List Nat) : Prop := l[l.length - 1]? ≠ some 32
theorem txt_nil : TxtOk [] := ⟨(fun _ h => nomatch h), (by simp), fun i h => by simp at h⟩
theorem txt_snoc {l : List Nat} {c : Nat} (h : TxtOk l) (hc : c ∈ sSIG.cps.toList) (hb : c = 32 → 0 < l.length ∧ LastOk l) : TxtOk (l ++ [c]) := by
  refine ⟨fun d hd => ?_, ?_, fun i h1 h2 => ?_⟩
  · rcases List.mem_append.mp hd with hd | hd
    · exact h.al d hd
    · rw [List.mem_singleton.mp hd]; exact hc
  · intro z
    cases l with
    | nil =>
      have : c = 32 := by simpa using z
      exact absurd (hb this).1 (by simp)
    | cons a r => exact h.first (by simpa using z)
  · by_cases hi : i + 1 < l.length
    · rw [List.getElem?_append_left (by omega)] at h1
      rw [List.getElem?_append_left hi] at h2
      exact h.dd i h1 h2
    · by_cases hi2 : i + 1 = l.length
      · rw [List.getElem?_append_left (by omega)] at h1
        rw [List.getElem?_append_right (by omega), show i + 1 - l.length = 0 by omega] at h2
        have hc32 : c = 32 := by simpa using h2
        have := (hb hc32).2
        unfold LastOk at this
        rw [show l.length - 1 = i by omega] at this
        exact this h1
      · rw [List.getElem?_append_right (by omega)] at h2
        have : 1 ≤ i + 1 - l.length := by omega
        rw [List.getElem?_eq_none (by simpa using this)] at h2
        cases h2
theorem last_snoc {l : List Nat} {c : Nat} (h : c ≠ 32) : LastOk (l ++ [c]) := by
  unfold LastOk
  rw [List.length_append, List.length_singleton, Nat.add_sub_cancel, List.getElem?_append_right (Nat.le_refl _), Nat.sub_self]
  intro z
  exact h (by simpa using z)
theorem sub_at {l : List Nat} {i : Nat} (h : PySem.Builtin.Str.subAt ⟨l.toArray⟩ ⟨#[32, 32]⟩ i = true) : l[i]? = some 32 ∧ l[i + 1]? = some 32 := by
  unfold PySem.Builtin.Str.subAt at h
  have h : (l.toArray.extract i (i + 2) == #[32, 32]) = true := h
  have h : l.toArray.extract i (i + 2) = #[32, 32] := eq_of_beq h
  have e : (l.toArray.extract i (i + 2)).toList = [32, 32] := by rw [h]
  rw [Array.toList_extract, List.extract_eq_drop_take] at e
  have e : (l.drop i).take (i + 2 - i) = [32, 32] := by simpa using e
  rw [show i + 2 - i = 2 by omega] at e
  have a0 : ((l.drop i).take 2)[0]? = some 32 := by rw [e]; rfl
  have a1 : ((l.drop i).take 2)[1]? = some 32 := by rw [e]; rfl
  rw [List.getElem?_take_of_lt (by decide), List.getElem?_drop] at a0 a1
  exact ⟨a0, a1⟩
theorem called_of {l : List Nat} (h : TxtOk l) (hl : LastOk l) (h1 : 1 ≤ l.length) (h2 : l.length ≤ 40) : CalledOk ⟨l.toArray⟩ := by
  have hs : (⟨l.toArray⟩ : Str).length = l.length := by show l.toArray.size = _; simp
  refine ⟨by omega, by omega, fun c hc => h.al c (by simpa using hc), fun c hc e => ?_, fun c hc e => ?_, ?_⟩
  · subst e
    exact h.first (by simpa using hc)
  · subst e
    exact hl (by simpa using hc)
  · rw [PySem.W.occ_nil_of_no]
    · rfl
    intro i _
    cases hq : PySem.Builtin.Str.subAt ⟨l.toArray⟩ ⟨#[32, 32]⟩ i with
    | false => rfl
    | true => exact absurd (sub_at hq).2 (h.dd i (sub_at hq).1)
/-- a sign put into a text -/
theorem txt_ins {l : List Nat} {k c : Nat} (h : TxtOk l) (hl : LastOk l) (hk : k ≤ l.length) (hc : c ∈ sSIG.cps.toList) (h32 : c ≠ 32) : TxtOk (l.take k ++ c :: l.drop k) ∧ LastOk (l.take k ++ c :: l.drop k) := by
  have ht : (l.take k).length = k := by rw [List.length_take]; omega
  refine ⟨⟨fun d hd => ?_, ?_, fun i h1 h2 => ?_⟩, ?_⟩
  · rcases List.mem_append.mp hd with hd | hd
    · exact h.al d (List.mem_of_mem_take hd)
    · rcases List.mem_cons.mp hd with rfl | hd
      · exact hc
      · exact h.al d (List.mem_of_mem_drop hd)
  · intro z
    by_cases h0 : 0 < k
    · rw [List.getElem?_append_left (by omega), List.getElem?_take_of_lt h0] at z
      exact h.first z
    · rw [List.getElem?_append_right (by omega), ht, show 0 - k = 0 by omega] at z
      exact h32 (by simpa using z)
  · by_cases a : i < k
    · rw [List.getElem?_append_left (by omega), List.getElem?_take_of_lt a] at h1
      by_cases b : i + 1 < k
      · rw [List.getElem?_append_left (by omega), List.getElem?_take_of_lt b] at h2
        exact h.dd i h1 h2
      · rw [List.getElem?_append_right (by omega), ht, show i + 1 - k = 0 by omega] at h2
        exact h32 (by simpa using h2)
    · rw [List.getElem?_append_right (by omega), ht] at h1 h2
      by_cases b : i = k
      · rw [b, Nat.sub_self] at h1
        exact h32 (by simpa using h1)
      · obtain ⟨j, hj⟩ : ∃ j, i - k = j + 1 := ⟨i - k - 1, by omega⟩
        rw [hj, List.getElem?_cons_succ, List.getElem?_drop] at h1
        rw [show i + 1 - k = j + 1 + 1 by omega, List.getElem?_cons_succ, List.getElem?_drop] at h2
        exact h.dd (k + j) h1 h2
  · unfold LastOk
    rw [List.length_append, List.length_cons, ht, List.length_drop]
    intro z
    rw [List.getElem?_append_right (by omega), ht] at z
    by_cases b : l.length = k
    · rw [show k + (l.length - k + 1) - 1 - k = 0 by omega] at z
      exact h32 (by simpa using z)
    · rw [show k + (l.length - k + 1) - 1 - k = (l.length - k - 1) + 1 by omega, List.getElem?_cons_succ, List.getElem?_drop, show k + (l.length - k - 1) = l.length - 1 by omega] at z
      exact hl z
theorem ins_inj {l : List Nat} {k c c' : Nat} (h : l.take k ++ c :: l.drop k = l.take k ++ c' :: l.drop k) : c = c' := by
  have := List.append_cancel_left h
  injection this
end TW
set_option Elab.async false
set_option linter.all false
set_option maxRecDepth 100000
set_option maxHeartbeats 4000000
namespace TW
open PySem PySem.Spec PyProof.Rows L2
section
variable {P : Program} {w : World} {K : PySem.W.Frag} {mg : Str → Option Value} {base : Heap}

def sLS : Str := "abcdefghijklmnopqrstuvwxyzABCDEFGHIJKLMNOPQRSTUVWXYZ0123456789'-."
theorem ls_ok {c : Nat} (h : c ∈ sLS.cps.toList) : c ∈ sSIG.cps.toList ∧ c ≠ 32 := by
  have key : sLS.cps.toList.all (fun c => decide (c ∈ sSIG.cps.toList) && decide (c ≠ 32)) = true := by decide +kernel
  have := List.all_eq_true.mp key c h
  simpa using this
theorem sp_in : 32 ∈ sSIG.cps.toList := by decide +kernel
theorem str_app (l : List Nat) (c : Nat) : (⟨l.toArray⟩ : Str) ++ ⟨#[c]⟩ = ⟨(l ++ [c]).toArray⟩ := by
  show (⟨l.toArray ++ #[c]⟩ : Str) = _
  congr 1
  simp
def sp_law_signs (K : PySem.W.Frag) : Sp := fun vs H Q _ => vs = [] ∧ Q (.str sLS) H
theorem ok_law_signs (T : Txt K mg) : C8.Cal P w K mg base 1 "_law_signs" (sp_law_signs K) [] := by
  obtain ⟨fd, F⟩ := T.d_law_signs
  refine cal_of F T.g_law_signs (fun _ _ _ _ _ _ us hl => match us, hl with | [], _ => rfl) sc_law_signs (fun vs H Q E h => ?_) fun cdv A outer s H vs Q E hr h => ?_
  · obtain ⟨rfl, hq⟩ := h
    rfl
  · have hu := hu_of hr
    have hu64 := hr.units
    obtain ⟨rfl, hq⟩ := h
    refine ⟨_, (pss_one (ps_ret pe_str)), ?_⟩
    exact hq
def sp_law_pick (K : PySem.W.Frag) : Sp := fun vs H Q _ => ∃ (h : Addr) (n : Nat) (s : V), vs = [.ref h, s] ∧ HandAt H h n ∧ n ≤ 1000000 ∧ ((∃ a xs, s = .ref a ∧ a ≠ h ∧ H a = some (.lst xs) ∧ 1 ≤ xs.length ∧ xs.length ≤ 1000 ∧ ∀ (i : Nat) v H', KpH h H H' → HandAt H' h (n + 1) → xs[i]? = some v → Q v H') ∨ ∃ z : Str, s = .str z ∧ 1 ≤ z.length ∧ z.length ≤ 1000 ∧ ∀ c H', KpH h H H' → HandAt H' h (n + 1) → c ∈ z.cps.toList → Q (.str ⟨#[c]⟩) H')
theorem ok_law_pick (T : Txt K mg) : C8.Cal P w K mg base 2 "_law_pick" (sp_law_pick K) [] := by
  obtain ⟨fd, F⟩ := T.d_law_pick
  refine cal_of F T.g_law_pick (fun _ _ _ _ _ _ us hl => match us, hl with | [_, _], _ => rfl) sc_law_pick (fun vs H Q E h => ?_) fun cdv A outer s H vs Q E hr h => ?_
  · obtain ⟨h, n, s0, rfl, hh, hn, hq⟩ := h
    rfl
  · have hu := hu_of hr
    have hu64 := hr.units
    obtain ⟨h, n, s0, rfl, hh, hn, hq⟩ := h
    refine ⟨_, (pss_one (ps_ret (pe_ix (ix_both (K := K)) (pv 1) (C8.pe_c (ok_law_take T) hr (by decide) rfl (pa_cons (pv 0) (pa_cons (pe_callB call_len (by rfl) T.f_len (by decide +kernel) (pa_cons (pv 1) pa_nil)) pa_nil))) (fun _ _ => rfl)))), ?_⟩
    rcases hq with ⟨a, xs, rfl, hne, ha, h1, h2, hq⟩ | ⟨z, rfl, h1, h2, hq⟩
    · refine ⟨_, rfl, _, rfl, _, rfl, _, xs.length, rfl, .inl ⟨xs, SqL.of ha, rfl⟩, h, n, _, rfl, hh, hn, (by omega), (by omega), fun r H' k hh' r0 r1 => ?_⟩
      obtain ⟨i, rfl⟩ : ∃ i : Nat, r = i := ⟨r.toNat, by omega⟩
      have hi : i < xs.length := by omega
      exact .inl ⟨a, xs, i, xs[i], rfl, rfl, SqL.of (k _ _ hne ha), atI_nat (List.getElem?_eq_getElem hi), hq i _ H' k hh' (List.getElem?_eq_getElem hi)⟩
    · refine ⟨_, rfl, _, rfl, _, rfl, _, z.length, rfl, ⟨Nat.le_trans h2 (by decide), rfl⟩, h, n, _, rfl, hh, hn, (by omega), (by omega), fun r H' k hh' r0 r1 => ?_⟩
      obtain ⟨i, rfl⟩ : ∃ i : Nat, r = i := ⟨r.toNat, by omega⟩
      have hi : i < z.cps.toList.length := by rw [Array.length_toList]; show i < z.length; omega
      exact .inr ⟨z, i, z.cps.toList[i], rfl, rfl, Nat.le_trans h2 (by decide), atI_nat (List.getElem?_eq_getElem hi), hq _ H' k hh' (List.getElem_mem hi)⟩
def sp_law_text (K : PySem.W.Frag) : Sp := fun vs H Q _ => ∃ (h : Addr) (n : Nat) (m : Int), vs = [.ref h, .int m] ∧ HandAt H h n ∧ n ≤ 900000 ∧ 1 ≤ m ∧ m ≤ 39 ∧ ∀ (l : List Nat) H', KpH h H H' → HandAt H' h (n + 100) → TxtOk l → LastOk l → 1 ≤ l.length → l.length ≤ m → Q (.str ⟨l.toArray⟩) H'
theorem ok_law_text (T : Txt K mg) : C8.Cal P w K mg base 3 "_law_text" (sp_law_text K) [] := by
  obtain ⟨fd, F⟩ := T.d_law_text
  refine cal_of F T.g_law_text (fun _ _ _ _ _ _ us hl => match us, hl with | [_, _], _ => rfl) sc_law_text (fun vs H Q E h => ?_) fun cdv A outer s H vs Q E hr h => ?_
  · obtain ⟨h, n, m, rfl, hh, hn, hm0, hm1, hq⟩ := h
    rfl
  · have hu := hu_of hr
    have hu64 := hr.units
    obtain ⟨h, n, m, rfl, hh, hn, hm0, hm1, hq⟩ := h
    refine ⟨_, (pss_cons (ps_par (i := 3) (j := 4) (by rfl) sc_law_text.nd rfl rfl (by decide) rfl rfl (pa_cons pe_str (pa_cons (pe_op op_add pe_int (C8.pe_c (ok_law_take T) hr (by decide) rfl (pa_cons (pv 0) (pa_cons (pv 1) pa_nil)))) pa_nil)) (by rfl))
    (pss_cons (ps_for PassesOwn.never rfl (pi_range1 (by rfl) T.f_range (pa_cons (pv 4) pa_nil)) (pg_name (i := 2) sc_law_text.nd rfl (by first | exact Or.inl rfl | exact Or.inr rfl))
    (pss_cons (ps_set (i := 5) sc_law_text.nd rfl (by first | exact Or.inl rfl | exact Or.inr rfl) (C8.pe_c (ok_law_pick T) hr (by decide) rfl (pa_cons (pv 0) (pa_cons (pe_c0 (ok_law_signs T) hr (by decide) rfl) pa_nil))))
    (pss_cons (ps_if (PW.pt (pw_and (pt_chain op_lt op_lt pe_int (pv 2) (pe_op op_sub (pv 4) pe_int)) (pw_and (pt_cmpR op_ne (pe_ix ix_str (pv 3) (pe_un un_neg pe_int) (fun _ _ => rfl)) pe_str (nomark _)) (pw_and1 (pt_cmpR op_eq (C8.pe_c (ok_law_take T) hr (by decide) rfl (pa_cons (pv 0) (pa_cons pe_int pa_nil))) pe_int (nomark _)))))) (pss_one (ps_set (i := 5) sc_law_text.nd rfl (by first | exact Or.inl rfl | exact Or.inr rfl) pe_str)) pss_nil)
    (pss_one (ps_set (i := 3) sc_law_text.nd rfl (by first | exact Or.inl rfl | exact Or.inr rfl) (pe_op op_add_str (pv 3) (pv 5)))))))
    (pss_one (ps_ret (pv 3))))), ?_⟩
    refine ⟨_, rfl, _, rfl, h, n, m, rfl, hh, by omega, hm0, by omega, fun sz H1 k1 hh1 s0 s1 => ⟨_, _, rfl, rfl, _, _, rfl, ?_⟩⟩
    refine next_ok ?_
    dsimp only
    refine ⟨_, rfl, 1 + sz, rfl, by omega, by omega, ?_⟩
    obtain ⟨z, hz⟩ : ∃ z : Nat, (1 + sz).toNat = z := ⟨_, rfl⟩
    have hzi : 1 + sz = (z : Int) := by omega
    rw [hz, hzi]
    have hnx : ∀ {H' : Hp}, HandAt H' h (n + 1 + 2 * z) → HandAt H' h (n + 100) := fun a => a.mono (by omega)
    refine for_src src_range (fun k σ H' => ∃ (l : List Nat) (s2 s5 : Option V), σ = [some (.ref h), some (.int m), s2, some (.str ⟨l.toArray⟩), some (.int z), s5] ∧ KpH h H H' ∧ HandAt H' h (n + 1 + 2 * k) ∧ TxtOk l ∧ l.length = k ∧ (k = z → LastOk l)) ⟨[], _, _, rfl, k1, hh1, txt_nil, rfl, fun e => by omega⟩ (fun _ _ _ _ _ => True.intro) (fun k x σ H2 H3 hk hP hy => ?_) fun σ H' hP => ?_
    · obtain ⟨rfl, rfl⟩ := hy
      obtain ⟨l, s2, s5, rfl, k2, hh2, tx, hl, hlast⟩ := hP
      refine ⟨_, rfl, rfl, h, _, .str sLS, rfl, hh2, by omega, .inr ⟨sLS, rfl, by decide +kernel, by decide +kernel, fun c H4 k4 hh4 hc => ?_⟩⟩
      refine next_ok ?_
      dsimp only
      obtain ⟨hcs, hc32⟩ := ls_ok hc
      refine seq_cut (fun σ H' => ∃ c : Nat, σ = [some (.ref h), some (.int m), some (.int (0 + (k : Int))), some (.str ⟨l.toArray⟩), some (.int z), some (.str ⟨#[c]⟩)] ∧ KpH h H H' ∧ HandAt H' h (n + 1 + 2 * (k + 1)) ∧ c ∈ sSIG.cps.toList ∧ (c = 32 → 0 < l.length ∧ LastOk l ∧ k + 1 < z)) (fun N hN => ?_) (fun σ H' hP => ?_)
      · have plain : ∀ {H' : Hp}, KpH h H H' → HandAt H' h (n + 1 + 2 * (k + 1)) → N [some (.ref h), some (.int m), some (.int (0 + (k : Int))), some (.str ⟨l.toArray⟩), some (.int z), some (.str ⟨#[c]⟩)] H' := fun a b => hN _ _ ⟨c, rfl, a, b, hcs, fun e => absurd e hc32⟩
        have p4 : HandAt H4 h (n + 1 + 2 * (k + 1)) := hh4.mono (by omega)
        refine ⟨_, rfl, _, _, rfl, rfl, _, rfl, ?_⟩
        by_cases hk0 : 0 < k
        case neg => exact if_decF (by omega) ⟨_, rfl, iteF (iteF (next_ok (plain (k2.trans k4) p4)))⟩
        refine if_decT (by omega) ⟨_, rfl, _, _, rfl, rfl, _, _, rfl, rfl, _, rfl, ?_⟩
        by_cases hk1 : k + 1 < z
        case neg => exact if_decF (by omega) (iteF (next_ok (plain (k2.trans k4) p4)))
        refine if_decT (by omega) ?_
        have hln : l.length ≤ 39 := by omega
        have hsz : (⟨l.toArray⟩ : Str).length = l.length := by show l.toArray.size = _; simp
        obtain ⟨d, hd⟩ : ∃ d, l[l.length - 1]? = some d := ⟨_, List.getElem?_eq_getElem (by omega)⟩
        have hat : atI (⟨l.toArray⟩ : Str).cps.toList (-1) = some d := by
          have e : (⟨l.toArray⟩ : Str).cps.toList = l := by simp
          rw [e]
          have : ixN l.length (-1) = some (l.length - 1) := by
            unfold ixN
            rw [if_neg (by decide), if_pos (by omega)]
            congr 1
            omega
          unfold atI
          rw [this]
          exact hd
        refine ⟨_, rfl, 1, rfl, _, _, d, rfl, rfl, (by rw [hsz]; exact Nat.le_trans hln (by decide)), hat, rfl, _, rfl, ?_⟩
        by_cases hd32 : d = 32
        · exact if_ndecF (by rw [sp1, hd32]) (iteF (next_ok (plain (k2.trans k4) p4)))
        refine if_ndecT (by rw [sp1]; exact one_ne hd32) ?_
        refine ⟨_, rfl, h, _, 6, rfl, hh4, by omega, by decide, by decide, fun r H5 k5 hh5 r0 r1 => ⟨rfl, _, rfl, ?_⟩⟩
        have p5 : HandAt H5 h (n + 1 + 2 * (k + 1)) := hh5.mono (by omega)
        by_cases hr : V.int r = V.int 0
        · refine if_decT hr ?_
          refine hN _ _ ⟨32, ?_, (k2.trans k4).trans k5, p5, sp_in, fun _ => ⟨by omega, ?_, hk1⟩⟩
          · rw [sp1]
            rfl
          · unfold LastOk
            rw [hd]
            exact fun e => hd32 (Option.some.inj e)
        · exact if_decF hr (next_ok (plain ((k2.trans k4).trans k5) p5))
      · obtain ⟨c, rfl, k5, hh5, hcs, hcb⟩ := hP
        refine ⟨_, rfl, _, rfl, _, _, rfl, rfl, ?_, ?_⟩
        · show l.toArray.size + 1 ≤ sizeLine
          rw [List.size_toArray, hl]
          exact Nat.le_trans (show k + 1 ≤ 40 by omega) (by decide)
        refine next_ok ⟨l ++ [c], some (.int (0 + (k : Int))), some (.str ⟨#[c]⟩), ?_, k5, hh5, txt_snoc tx hcs fun e => ⟨(hcb e).1, (hcb e).2.1⟩, by rw [List.length_append, hl]; rfl, fun e => last_snoc fun e' => ?_⟩
        · rw [str_app]; rfl
        · have := (hcb e').2.2
          omega
    · obtain ⟨l, s2, s5, rfl, k2, hh2, tx, hl, hlast⟩ := hP
      exact ⟨_, rfl, hq l H' k2 (hnx hh2) tx (hlast rfl) (by omega) (by omega)⟩
end
end TW
set_option Elab.async false
set_option linter.all false
set_option maxRecDepth 100000
set_option maxHeartbeats 4000000
namespace TW
open PySem PySem.Spec PyProof.Rows L2
open PySem.W (AllAlike Sortable dataLe dataLt alike)
/-! ### the order of data -/
theorem le_iff {α : Type} {mk : α → PyData} {a b : α} : dataLe false mk a b = true ↔ dataLt (mk b) (mk a) = false := by
  have : dataLe false mk a b = !dataLt (mk b) (mk a) := rfl
  rw [this]
  cases dataLt (mk b) (mk a) <;> simp
section
variable {α : Type} {mk : α → PyData}
theorem le_trans' (a b c : α) (h1 : dataLe false mk a b = true) (h2 : dataLe false mk b c = true) : dataLe false mk a c = true := (PySem.W.sortLe_total (listOrd itemOrd) false fun b => PySem.W.keyToks (mk b)).trans a b c h1 h2
theorem le_total' (a b : α) : (dataLe false mk a b || dataLe false mk b a) = true := by
  cases h : dataLe false mk a b with
  | true => rfl
  | false =>
    have h : dataLt (mk b) (mk a) = true := by
      cases q : dataLt (mk b) (mk a) with
      | true => rfl
      | false => rw [le_iff.mpr q] at h; cases h
    have : dataLt (mk a) (mk b) = false := by
      cases q : dataLt (mk a) (mk b) with
      | false => rfl
      | true =>
        have z : dataLt (mk a) (mk a) = true := lex_trans (O := itemOrd) _ _ _ q h
        have e : dataLt (mk a) (mk a) = false := lex_irrefl (O := itemOrd) _
        rw [e] at z
        cases z
    rw [Bool.false_or]
    exact le_iff.mpr this
theorem lt_eqv {x y : PyData} (al : alike x y = true) (h1 : dataLt x y = false) (h2 : dataLt y x = false) : PyData.eqv x y = true := by
  cases e : PyData.eqv x y with
  | true => rfl
  | false =>
    have q := (PySem.W.toks_eqv x y al).2 e
    have z : PySem.W.keyToks x = PySem.W.keyToks y := lex_total (O := itemOrd) _ _ h1 h2
    rw [z] at q
    have a := q [] [.inl 0]
    have c1 : PyProof.Rows.lexLt itemOrd (PySem.W.keyToks y) (PySem.W.keyToks y) = false := lex_irrefl (O := itemOrd) _
    have c2 : PyProof.Rows.lexLt itemOrd (PySem.W.keyToks y ++ []) (PySem.W.keyToks y ++ [.inl 0]) = true := by
      rw [PySem.W.lex_pre]
      rfl
    rw [c1, c2] at a
    cases a
/-- one order for one set -/
theorem sort_perm {l l' : List α} (hp : l.Perm l') (al : ∀ a ∈ l, ∀ b ∈ l', alike (mk a) (mk b) = true) (inj : ∀ a ∈ l, ∀ b ∈ l', PyData.eqv (mk a) (mk b) = true → a = b) : l.mergeSort (dataLe false mk) = l'.mergeSort (dataLe false mk) := by
  have p1 := List.pairwise_mergeSort (le := dataLe false mk) le_trans' le_total' l
  have p2 := List.pairwise_mergeSort (le := dataLe false mk) le_trans' le_total' l'
  refine List.Perm.eq_of_pairwise (fun a b ha hb h1 h2 => ?_) p1 p2 (((List.mergeSort_perm l _).trans hp).trans (List.mergeSort_perm l' _).symm)
  exact inj a (List.mem_mergeSort.mp ha) b (List.mem_mergeSort.mp hb) (lt_eqv (al a (List.mem_mergeSort.mp ha) b (List.mem_mergeSort.mp hb)) (le_iff.mp h2) (le_iff.mp h1))
/-- a sorted list without doubles rises -/
theorem sort_rise {l : List α} (nd : l.Nodup) (al : ∀ a ∈ l, ∀ b ∈ l, alike (mk a) (mk b) = true) (inj : ∀ a ∈ l, ∀ b ∈ l, PyData.eqv (mk a) (mk b) = true → a = b) {i : Nat} {a b : α} (h1 : (l.mergeSort (dataLe false mk))[i]? = some a) (h2 : (l.mergeSort (dataLe false mk))[i + 1]? = some b) : dataLt (mk a) (mk b) = true := by
  have p1 := List.pairwise_mergeSort (le := dataLe false mk) le_trans' le_total' l
  have nd' : (l.mergeSort (dataLe false mk)).Nodup := (List.mergeSort_perm l _).nodup_iff.mpr nd
  obtain ⟨l1, e1⟩ := List.getElem?_eq_some_iff.mp h1
  obtain ⟨l2, e2⟩ := List.getElem?_eq_some_iff.mp h2
  have hle := List.pairwise_iff_getElem.mp p1 i (i + 1) l1 l2 (by omega)
  rw [e1, e2] at hle
  have hle := le_iff.mp hle
  cases h : dataLt (mk a) (mk b) with
  | true => rfl
  | false =>
    have ha := List.mem_mergeSort.mp (List.mem_of_getElem? h1)
    have hb := List.mem_mergeSort.mp (List.mem_of_getElem? h2)
    have e := inj a ha b hb (lt_eqv (al a ha b hb) h hle)
    have hne := List.pairwise_iff_getElem.mp nd' i (i + 1) l1 l2 (by omega)
    rw [e1, e2] at hne
    exact absurd e hne
end
theorem eqv_name (a b : Str × Str) : PyData.eqv (nmark a) (nmark b) = decide (a = b) := by
  obtain ⟨a1, a2⟩ := a
  obtain ⟨b1, b2⟩ := b
  simp only [nmark, PyData.eqv, PyData.eqvAll, Bool.and_true, Prod.mk.injEq]
  rw [Bool.eq_iff_iff]
  simp
theorem eqv_cl (a b : Clash) : PyData.eqv (cdat a) (cdat b) = decide (a = b) := by
  obtain ⟨⟨a1, a2⟩, a3⟩ := a
  obtain ⟨⟨b1, b2⟩, b3⟩ := b
  simp only [cdat, PyData.eqv, PyData.eqvAll, Bool.and_true, Prod.mk.injEq]
  rw [Bool.eq_iff_iff]
  simp [and_assoc]
theorem eqv_th {i : Nat} {a b : Th} (oa : a.ok i) (ob : b.ok i) (h : PyData.eqv a.mark b.mark = true) : a = b := by
  rcases th_ok oa with ⟨z, rfl, e, k⟩ | ⟨t, z, rfl, e, k⟩ | ⟨l, rfl, e, k⟩ | ⟨yy, m, d, rfl, e, k⟩ | ⟨n, rfl, e, k⟩ <;> subst e
  all_goals rcases th_ok ob with ⟨z', rfl, e, k'⟩ | ⟨t', z', rfl, e, k'⟩ | ⟨l', rfl, e, k'⟩ | ⟨y', m', d', rfl, e, k'⟩ | ⟨n', rfl, e, k'⟩ <;> first | cases e | skip
  · simpa [Th.mark, PyData.eqv] using h
  · have := eqv_name (t, z) (t', z')
    have h : PyData.eqv (nmark (t, z)) (nmark (t', z')) = true := h
    rw [this] at h
    have h := of_decide_eq_true h
    injection h with h1 h2
    rw [h1, h2]
  · have h : PyData.eqv (.tuple (l.map nmark)) (.tuple (l'.map nmark)) = true := h
    rw [PyData.eqv, eqv_names] at h
    rw [of_decide_eq_true h]
  · simp only [Th.mark, PyData.eqv, PyData.eqvAll, Bool.and_true, Bool.and_eq_true, beq_iff_eq] at h
    obtain ⟨h1, h2, h3⟩ := h
    have hm : ∀ {o o' : Option Int}, (∀ i, o = some i → 1 ≤ i) → (∀ i, o' = some i → 1 ≤ i) → o.getD 0 = o'.getD 0 → o = o' := fun {o o'} p p' e => by
      cases o with
      | none =>
        cases o' with
        | none => rfl
        | some j => have := p' j rfl; simp at e; omega
      | some i =>
        cases o' with
        | none => have := p i rfl; simp at e; omega
        | some j => simp at e; rw [e]
    rw [h1, hm (fun i e => (k.mr i e).1) (fun i e => (k'.mr i e).1) h2, hm (fun i e => (k.dr i e).1) (fun i e => (k'.dr i e).1) h3]
  · simpa [Th.mark, PyData.eqv] using h
theorem sortTh_perm {i : Nat} {l l' : List Th} (hp : l.Perm l') (o : ∀ th ∈ l, Th.ok i th) : sortTh l = sortTh l' := by
  have o' : ∀ th ∈ l', Th.ok i th := fun th h => o th (hp.mem_iff.mpr h)
  exact sort_perm hp (fun a ha b hb => alike_th (o a ha) (o' b hb)) fun a ha b hb h => eqv_th (o a ha) (o' b hb) h
theorem sortK_perm {l l' : List LKey} (hp : l.Perm l') : sortK l = sortK l' := sort_perm hp (fun a _ b _ => by simp [kdat, alike, PySem.W.alikeAll]) fun a _ b _ h => by rw [eqv_key] at h; exact of_decide_eq_true h
theorem sortC_perm {l l' : List Clash} (hp : l.Perm l') : sortC l = sortC l' := sort_perm hp (fun a _ b _ => by simp [cdat, alike, PySem.W.alikeAll]) fun a _ b _ h => by rw [eqv_cl] at h; exact of_decide_eq_true h
/-- names that sorted makes players -/
theorem players_of {l : List (Str × Str)} (h1 : 1 ≤ l.length) (h2 : l.length ≤ 8) (ok : ∀ p ∈ l, NameOk p) (nd : l.Nodup) : PlayersOk (l.mergeSort (dataLe false nmark)) :=
  ⟨by rw [List.length_mergeSort]; exact h1, by rw [List.length_mergeSort]; exact h2, fun p hp => ok p (List.mem_mergeSort.mp hp),
    fun i a b ha hb => sort_rise nd (fun a _ b _ => alike_name a b) (fun a _ b _ h => by rw [eqv_name] at h; exact of_decide_eq_true h) ha hb⟩
end TW
set_option Elab.async false
set_option linter.all false
set_option maxRecDepth 100000
set_option maxHeartbeats 4000000
namespace TW
open PySem PySem.Spec PyProof.Rows L2
section
variable {P : Program} {w : World} {K : PySem.W.Frag} {mg : Str → Option Value} {base : Heap}

abbrev sgn (c : Nat) : V := .str ⟨#[c]⟩
theorem HandAt.upd {H : Hp} {h D : Addr} {n : Nat} {o : HO} (e : h ≠ D) (a : HandAt H h n) : HandAt (upd H D o) h n := let ⟨g, s, t, q, r⟩ := a; ⟨g, s, t, by rw [upd_ne e]; exact q, r⟩
theorem hand_ne {H : Hp} {h D : Addr} {n : Nat} (a : HandAt H h n) (hD : H D = none) : h ≠ D := let ⟨g, s, t, q, r⟩ := a; ne_of_none q hD
/-- [pick(hand, signs) for k in range(c)] -/
theorem pick_lc {σ : L2.St} {H : Hp} {D h : Addr} {al : Str} {n c j : Nat} {Qd : Hp → Prop} (h0 : σ[0]? = some (some (.ref h))) (h1 : σ[1]? = some (some (.str al))) (hj0 : j ≠ 0) (hj1 : j ≠ 1) (hj : j < σ.length) (hD : H D = none) (hh : HandAt H h n) (hn : n + c ≤ 1000000) (a1 : 1 ≤ al.length) (a2 : al.length ≤ 1000)
    (hq : ∀ (H' : Hp) (cs : List Nat), KpH h H H' → HandAt H' h (n + c) → cs.length = c → (∀ x ∈ cs, x ∈ al.cps.toList) → H' D = some (.lst (cs.map sgn)) → Qd H') :
    ∃ W : Nat → Nat → Hp → Prop, (∃ m, W 0 m (upd H D (.lst []))) ∧ ∀ i m H, W i m H →
      ((Itr 0 c).stop i H ∧ Qd H) ∨ ((Itr 0 c).go i H ∧ ∃ Nx : Hp → Prop, (∀ H', Nx H' → ∃ m', m' < m ∧ W (i + 1) m' H') ∧ ∀ x H', (Itr 0 c).yld i H x H' → gName j x (wipe σ [j]) H' fun σ2 H2 => wipe σ2 [j] = wipe σ [j] ∧ tYes σ2 H2 fun b H3 =>
        if b = true then tCall (sp_law_pick K) [] C8.E0 (tCons (tVar 0) (tCons (tVar 1) tNil)) σ2 H3 fun y H4 => ∃ acc, H4 D = some (.lst acc) ∧ acc.length < sizeLine ∧ Nx (upd H4 D (.lst (acc ++ [y]))) else Nx H3) := by
  have hne := hand_ne hh hD
  refine lc_map src_range (· = h) (fun _ z _ => ∃ x, x ∈ al.cps.toList ∧ z = sgn x) (fun i H' => HandAt H' h (n + i)) hD (fun z => hne z.symm) (Nat.le_trans (show c ≤ 1000000 by omega) (by decide)) (fun _ _ _ _ _ h => h) (fun i H' o a => a.upd hne) hh (fun _ _ _ _ _ => True.intro) (fun i H1 H2 a k => KpH.imm k a) (fun k v H1 H2 hk kp hh1 hy Q' q => ?_) fun H1 zs kp hD1 hl hr hh1 => ?_
  · obtain ⟨rfl, rfl⟩ := hy
    refine ⟨?_, _, ?_, _, ?_, h, n + k, .str al, rfl, hh1, by omega, .inr ⟨al, rfl, a1, a2, fun x H' k' hh' hx => q _ _ k' ⟨x, hx, rfl⟩ hh'⟩⟩
    · show ((σ.set j none).set j (some (V.int (0 + (k : Int))))).set j none = σ.set j none
      rw [List.set_set, List.set_set]
    · show ((σ.set j none).set j _)[0]? = _
      rw [List.getElem?_set_ne hj0, List.getElem?_set_ne hj0, h0]
    · show ((σ.set j none).set j _)[1]? = _
      rw [List.getElem?_set_ne hj1, List.getElem?_set_ne hj1, h1]
  · have key : ∀ zs : List V, (∀ z ∈ zs, ∃ x, x ∈ al.cps.toList ∧ z = sgn x) → ∃ cs : List Nat, (∀ x ∈ cs, x ∈ al.cps.toList) ∧ zs = cs.map sgn := fun zs => by
      induction zs with
      | nil => exact fun _ => ⟨[], (fun _ h => nomatch h), rfl⟩
      | cons z zs ih =>
        intro h
        obtain ⟨x, hx, rfl⟩ := h z List.mem_cons_self
        obtain ⟨cs, h1, rfl⟩ := ih fun z hz => h z (List.mem_cons_of_mem _ hz)
        exact ⟨x :: cs, fun y hy => by rcases List.mem_cons.mp hy with rfl | hy; exact hx; exact h1 y hy, rfl⟩
    obtain ⟨cs, h1, rfl⟩ := key zs fun z hz => by
      obtain ⟨i, hi⟩ := List.mem_iff_getElem?.mp hz
      exact hr i z hi
    rw [List.length_map] at hl
    exact hq H1 cs kp hh1 hl h1 hD1
theorem str_ext {x y : Str} (h : x.cps.toList = y.cps.toList) : x = y := PySem.W.str_of_cps h
theorem join_cs : ∀ cs : List Nat, Txt.join "" (cs.map fun c => (⟨#[c]⟩ : Str)) = ⟨cs.toArray⟩ := by
  intro cs
  show Builtin.Str.glued "" _ = _
  rw [PySem.StrLaws.glued_eq_join]
  induction cs with
  | nil => rfl
  | cons a r ih =>
    cases r with
    | nil => rfl
    | cons b r =>
      show (⟨#[a]⟩ : Str) ++ "" ++ Str.join "" (⟨#[b]⟩ :: r.map _) = _
      have ih : Str.join "" (⟨#[b]⟩ :: r.map fun c => (⟨#[c]⟩ : Str)) = ⟨(b :: r).toArray⟩ := ih
      rw [ih]
      refine str_ext ?_
      show ((#[a] ++ (Str.ofString "").cps) ++ (b :: r).toArray).toList = _
      simp
      rfl
theorem cs_sum (cs : List Nat) : ((cs.map fun c => (⟨#[c]⟩ : Str)).map (·.length)).sum + (cs.map fun c => (⟨#[c]⟩ : Str)).length * ("" : Str).length = cs.length := by
  have e : ("" : Str).length = 0 := rfl
  rw [e, Nat.mul_zero, Nat.add_zero, List.map_map]
  induction cs with
  | nil => rfl
  | cons a r ih =>
    rw [List.map_cons, List.sum_cons, ih, List.length_cons]
    show 1 + r.length = _
    omega
theorem sgn_map (cs : List Nat) : cs.map sgn = (cs.map fun c => (⟨#[c]⟩ : Str)).map V.str := by
  rw [List.map_map]; rfl
theorem arr_len (cs : List Nat) : (⟨cs.toArray⟩ : Str).length = cs.length := by show cs.toArray.size = _; simp
theorem arr_al {al : Str} {cs : List Nat} (h : ∀ x ∈ cs, x ∈ al.cps.toList) : inAl al ⟨cs.toArray⟩ := fun c hc => h c (by simpa using hc)
def sp_law_tongue (K : PySem.W.Frag) : Sp := fun vs H Q _ => ∃ (h : Addr) (n : Nat), vs = [.ref h] ∧ HandAt H h n ∧ n ≤ 900000 ∧ ∀ (z : Str) H', KpH h H H' → HandAt H' h (n + 10) → 2 ≤ z.length → z.length ≤ 3 → inAl sLET z → Q (.str z) H'
theorem ok_law_tongue (T : Txt K mg) : C8.Cal P w K mg base 3 "_law_tongue" (sp_law_tongue K) [] := by
  obtain ⟨fd, F⟩ := T.d_law_tongue
  refine cal_of F T.g_law_tongue (fun _ _ _ _ _ _ us hl => match us, hl with | [_], _ => rfl) sc_law_tongue (fun vs H Q E h => ?_) fun cdv A outer s H vs Q E hr h => ?_
  · obtain ⟨h, n, rfl, hh, hn, hq⟩ := h
    rfl
  · have hu := hu_of hr
    have hu64 := hr.units
    obtain ⟨h, n, rfl, hh, hn, hq⟩ := h
    refine ⟨_, (pss_cons (ps_set (i := 1) sc_law_tongue.nd rfl (by first | exact Or.inl rfl | exact Or.inr rfl) pe_str)
    (pss_one (ps_ret (pe_join pe_str (pe_lc (own := [("_law_k", 2)]) (by rfl) sc_law_tongue.nd (pi_range1 (by rfl) T.f_range (pa_cons (pe_op op_add pe_int (C8.pe_c (ok_law_take T) hr (by decide) rfl (pa_cons (pv 0) (pa_cons pe_int pa_nil)))) pa_nil)) (blkOk_by (N := N_law_tongue) (sc := defScope s_law_tongue) (by decide +kernel)) (fun _ _ _ _ _ => (pg_name (i := 2) sc_law_tongue.nd rfl (by first | exact Or.inl rfl | exact Or.inr rfl))) (fun _ _ _ _ _ => by exact pts_nil) (fun _ _ _ _ _ => by exact (C8.pe_c (ok_law_pick T) hr (by decide) rfl (pa_cons (pv 0) (pa_cons (pv 1) pa_nil))))))))), ?_⟩
    refine ⟨⟨_, rfl⟩, _, rfl, h, n, 2, rfl, hh, by omega, by decide, by decide, fun r H1 k1 hh1 r0 r1 => ⟨_, _, rfl, rfl, 2 + r, rfl, by omega, by omega, fun D hD => ?_⟩⟩
    refine pick_lc (K := K) (h := h) (al := sLET) (n := n + 1) (c := (2 + r).toNat) (j := 2) rfl rfl (by decide) (by decide) (show 2 < 3 by decide) hD hh1 (by omega) (by decide +kernel) (by decide +kernel) fun H2 cs k2 hh2 hl hc hD2 => ?_
    refine ⟨_, D, cs.map fun c => (⟨#[c]⟩ : Str), rfl, rfl, .inl (SqL.of (by rw [← sgn_map]; exact hD2)), (by rw [cs_sum]; omega), ?_⟩
    rw [join_cs]
    exact hq _ _ (k1.trans k2) (hh2.mono (by omega)) (by rw [arr_len]; omega) (by rw [arr_len]; omega) (arr_al hc)
def sp_law_word (K : PySem.W.Frag) : Sp := fun vs H Q _ => ∃ (h : Addr) (n : Nat), vs = [.ref h] ∧ HandAt H h n ∧ n ≤ 900000 ∧ ∀ (z : Str) H', KpH h H H' → HandAt H' h (n + 10) → WordOk z → Q (.str z) H'
theorem ok_law_word (T : Txt K mg) : C8.Cal P w K mg base 3 "_law_word" (sp_law_word K) [] := by
  obtain ⟨fd, F⟩ := T.d_law_word
  refine cal_of F T.g_law_word (fun _ _ _ _ _ _ us hl => match us, hl with | [_], _ => rfl) sc_law_word (fun vs H Q E h => ?_) fun cdv A outer s H vs Q E hr h => ?_
  · obtain ⟨h, n, rfl, hh, hn, hq⟩ := h
    rfl
  · have hu := hu_of hr
    have hu64 := hr.units
    obtain ⟨h, n, rfl, hh, hn, hq⟩ := h
    refine ⟨_, (pss_cons (ps_set (i := 1) sc_law_word.nd rfl (by first | exact Or.inl rfl | exact Or.inr rfl) pe_str)
    (pss_one (ps_ret (pe_join pe_str (pe_lc (own := [("_law_k", 2)]) (by rfl) sc_law_word.nd (pi_range1 (by rfl) T.f_range (pa_cons (pe_op op_add pe_int (C8.pe_c (ok_law_take T) hr (by decide) rfl (pa_cons (pv 0) (pa_cons pe_int pa_nil)))) pa_nil)) (blkOk_by (N := N_law_word) (sc := defScope s_law_word) (by decide +kernel)) (fun _ _ _ _ _ => (pg_name (i := 2) sc_law_word.nd rfl (by first | exact Or.inl rfl | exact Or.inr rfl))) (fun _ _ _ _ _ => by exact pts_nil) (fun _ _ _ _ _ => by exact (C8.pe_c (ok_law_pick T) hr (by decide) rfl (pa_cons (pv 0) (pa_cons (pv 1) pa_nil))))))))), ?_⟩
    refine ⟨⟨_, rfl⟩, _, rfl, h, n, 8, rfl, hh, by omega, by decide, by decide, fun r H1 k1 hh1 r0 r1 => ⟨_, _, rfl, rfl, 1 + r, rfl, by omega, by omega, fun D hD => ?_⟩⟩
    refine pick_lc (K := K) (h := h) (al := sLET) (n := n + 1) (c := (1 + r).toNat) (j := 2) rfl rfl (by decide) (by decide) (show 2 < 3 by decide) hD hh1 (by omega) (by decide +kernel) (by decide +kernel) fun H2 cs k2 hh2 hl hc hD2 => ?_
    refine ⟨_, D, cs.map fun c => (⟨#[c]⟩ : Str), rfl, rfl, .inl (SqL.of (by rw [← sgn_map]; exact hD2)), (by rw [cs_sum]; omega), ?_⟩
    rw [join_cs]
    exact hq _ _ (k1.trans k2) (hh2.mono (by omega)) ⟨by rw [arr_len]; omega, by rw [arr_len]; omega, arr_al hc⟩

theorem app_al {al x y : Str} (h1 : inAl al x) (h2 : inAl al y) : inAl al (x ++ y) := fun c hc => by
  have hc : c ∈ (x.cps ++ y.cps).toList := hc
  rw [Array.toList_append] at hc
  rcases List.mem_append.mp hc with h | h
  · exact h1 c h
  · exact h2 c h
theorem one_al {al : Str} {c : Nat} (h : c ∈ al.cps.toList) : inAl al ⟨#[c]⟩ := fun d hd => by
  have : d = c := by simpa using hd
  rw [this]; exact h
theorem cut_al {al x : Str} {lo hi : Option Int} (h : inAl al x) : inAl al (cutS x lo hi) := fun c hc => by
  unfold cutS at hc
  have hc : c ∈ (x.cps.toList.drop (HT.sIx x.length 0 lo)).take (HT.sIx x.length x.length hi - HT.sIx x.length 0 lo) := by simpa using hc
  exact h c (List.mem_of_mem_drop (List.mem_of_mem_take hc))
theorem cut_len {x : Str} {lo hi : Option Int} : (cutS x lo hi).length ≤ x.length := by
  unfold cutS
  show Array.size (List.toArray _) ≤ _
  rw [List.size_toArray, List.length_take, List.length_drop, Array.length_toList]
  show min _ (x.length - _) ≤ _
  omega
theorem rev_al {al x : Str} (h : inAl al x) : inAl al (revS x) := fun c hc => by
  unfold revS at hc
  exact h c (by simpa using hc)
theorem rev_len {x : Str} : (revS x).length = x.length := by
  unfold revS
  show Array.size _ = _
  simp
  try rfl
theorem sp_day {H1 : Hp} {R : Hp → Prop} {E : XK} {x dx : Addr} {vs : List V} {y : Int} {m d : Option Int} (hx : H1 x = none) (hdx : H1 dx = none) (hne : dx ≠ x) (e : vs = [.ref x, .int y, oi m, oi d]) (ok : DayOk y m d) (q : ∀ H', Ext H1 H' → ThAt K H' (.ref x) (.day y m d) → R H') :
    sp_Day_init K vs (upd (upd H1 dx (.own x)) x (.ins (He.ga K "Day") dx [])) (fun v H2 => v = .non ∧ R H2) E := by
  rw [e]
  exact ⟨x, dx, y, m, d, rfl, upd_same, ok, rfl, q _ (fun b u hb => by
    have h1 : b ≠ x := ne_of_none hb hx
    have h2 : b ≠ dx := ne_of_none hb hdx
    rw [upd_ne h1, upd_ne h1, upd_ne h2]
    exact hb) ⟨x, dx, rfl, upd_same⟩⟩
theorem sp_len {H1 : Hp} {R : Hp → Prop} {E : XK} {x dx : Addr} {vs : List V} {n : Int} (hx : H1 x = none) (hdx : H1 dx = none) (hne : dx ≠ x) (e : vs = [.ref x, .int n]) (h0 : 0 ≤ n) (h1 : n ≤ 359999) (q : ∀ H', Ext H1 H' → ThAt K H' (.ref x) (.len n) → R H') :
    sp_Length_init K vs (upd (upd H1 dx (.own x)) x (.ins (He.ga K "Length") dx [])) (fun v H2 => v = .non ∧ R H2) E := by
  rw [e]
  exact ⟨x, dx, n, rfl, upd_same, h0, h1, rfl, q _ (fun b u hb => by
    have h1 : b ≠ x := ne_of_none hb hx
    have h2 : b ≠ dx := ne_of_none hb hdx
    rw [upd_ne h1, upd_ne h1, upd_ne h2]
    exact hb) ⟨x, dx, rfl, upd_same⟩⟩
theorem mk_ext {H : Hp} {x dx : Addr} {o o1 o2 : HO} (hx : H x = none) (hdx : H dx = none) (hne : dx ≠ x) : Ext H (upd (upd (upd H dx o) x o1) x o2) := fun b u hb => by
  have h1 : b ≠ x := ne_of_none hb hx
  have h2 : b ≠ dx := ne_of_none hb hdx
  rw [upd_ne h1, upd_ne h1, upd_ne h2]
  exact hb
def sp_law_codes (K : PySem.W.Frag) : Sp := fun vs H Q _ => ∃ (h : Addr) (n : Nat), vs = [.ref h] ∧ HandAt H h n ∧ n ≤ 900000 ∧ ∀ (a : Addr) H' ths, KpH h H H' → HandAt H' h (n + 20) → H a = none → ListAt K H' a ths → (∀ th ∈ ths, Th.ok 0 th) → ths.length = 4 → Q (.ref a) H'
theorem ok_law_codes (T : Txt K mg) : C8.Cal P w K mg base 3 "_law_codes" (sp_law_codes K) [] := by
  obtain ⟨fd, F⟩ := T.d_law_codes
  refine cal_of F T.g_law_codes (fun _ _ _ _ _ _ us hl => match us, hl with | [_], _ => rfl) sc_law_codes (fun vs H Q E h => ?_) fun cdv A outer s H vs Q E hr h => ?_
  · obtain ⟨h, n, rfl, hh, hn, hq⟩ := h
    rfl
  · have hu := hu_of hr
    have hu64 := hr.units
    obtain ⟨h, n, rfl, hh, hn, hq⟩ := h
    refine ⟨_, (pss_cons (ps_set (i := 1) sc_law_codes.nd rfl (by first | exact Or.inl rfl | exact Or.inr rfl) pe_str)
    (pss_cons (ps_set (i := 2) sc_law_codes.nd rfl (by first | exact Or.inl rfl | exact Or.inr rfl) (pe_join pe_str (pe_lc (own := [("_law_k", 3)]) (by rfl) sc_law_codes.nd (pi_range1 (by rfl) T.f_range (pa_cons (pe_op op_add pe_int (C8.pe_c (ok_law_take T) hr (by decide) rfl (pa_cons (pv 0) (pa_cons pe_int pa_nil)))) pa_nil)) (blkOk_by (N := N_law_codes) (sc := defScope s_law_codes) (by decide +kernel)) (fun _ _ _ _ _ => (pg_name (i := 3) sc_law_codes.nd rfl (by first | exact Or.inl rfl | exact Or.inr rfl))) (fun _ _ _ _ _ => by exact pts_nil) (fun _ _ _ _ _ => by exact (C8.pe_c (ok_law_pick T) hr (by decide) rfl (pa_cons (pv 0) (pa_cons (pv 1) pa_nil)))))))
    (pss_one (ps_ret (pe_lst (pa_cons (pv 2) (pa_cons (pe_op op_add_str (pv 2) (C8.pe_c (ok_law_pick T) hr (by decide) rfl (pa_cons (pv 0) (pa_cons (pv 1) pa_nil)))) (pa_cons (pe_op op_add_str (C8.pe_c (ok_law_pick T) hr (by decide) rfl (pa_cons (pv 0) (pa_cons (pv 1) pa_nil))) (pe_slice sl_str (pv 2) (po_some pe_int) po_none)) (pa_cons (pe_revS (pv 2)) pa_nil))))))))), ?_⟩
    refine next_ok ?_
    dsimp only
    refine ⟨⟨_, rfl⟩, _, rfl, h, n, 11, rfl, hh, by omega, by decide, by decide, fun r H1 k1 hh1 r0 r1 => ⟨_, _, rfl, rfl, 1 + r, rfl, by omega, by omega, fun D hD => ?_⟩⟩
    refine pick_lc (K := K) (h := h) (al := sCOD) (n := n + 1) (c := (1 + r).toNat) (j := 3) rfl rfl (by decide) (by decide) (show 3 < 4 by decide) hD hh1 (by omega) (by decide +kernel) (by decide +kernel) fun H2 cs k2 hh2 hl hc hD2 => ?_
    refine ⟨_, D, cs.map fun c => (⟨#[c]⟩ : Str), rfl, rfl, .inl (SqL.of (by rw [← sgn_map]; exact hD2)), (by rw [cs_sum]; omega), ?_⟩
    rw [join_cs]
    refine next_ok ?_
    dsimp only
    have hzl := arr_len cs
    have hza := arr_al (al := sCOD) hc
    generalize (⟨cs.toArray⟩ : Str) = z at hzl hza
    have hsz : z.length ≤ sizeLine := Nat.le_trans (show z.length ≤ 11 by omega) (by decide)
    refine ⟨_, rfl, _, rfl, _, rfl, _, rfl, h, _, .str sCOD, rfl, hh2, by omega, .inr ⟨sCOD, rfl, by decide +kernel, by decide +kernel, fun c1 H3 k3 hh3 hc1 => ?_⟩⟩
    refine ⟨_, _, rfl, rfl, (Nat.le_trans (show z.length + 1 ≤ 12 by omega) (by decide)), _, rfl, _, rfl, h, _, .str sCOD, rfl, hh3, by omega, .inr ⟨sCOD, rfl, by decide +kernel, by decide +kernel, fun c2 H4 k4 hh4 hc2 => ?_⟩⟩
    have hcl := cut_len (x := z) (lo := some 1) (hi := none)
    refine ⟨_, rfl, 1, rfl, z, rfl, hsz, _, _, rfl, rfl, (Nat.le_trans (show 1 + (cutS z (some 1) none).length ≤ 12 by omega) (by decide)), _, rfl, z, rfl, hsz, by show 4 ≤ sizeLine; decide, fun a ha => ?_⟩
    have kk : KpH h H H4 := ((k1.trans k2).trans k3).trans k4
    refine hq a _ [.code z, .code (z ++ ⟨#[c1]⟩), .code ((⟨#[c2]⟩ : Str) ++ cutS z (some 1) none), .code (revS z)] (kk.new ha) ((hh4.mono (by omega)).upd (hand_ne hh4 ha)) (kk.free ha fun e => hand_ne hh4 ha e.symm) ⟨_, upd_same, .cons (show V.str z = V.str z from rfl) (.cons (show V.str (z ++ ⟨#[c1]⟩) = V.str (z ++ ⟨#[c1]⟩) from rfl) (.cons (show V.str ((⟨#[c2]⟩ : Str) ++ cutS z (some 1) none) = V.str ((⟨#[c2]⟩ : Str) ++ cutS z (some 1) none) from rfl) (.cons (show V.str (revS z) = V.str (revS z) from rfl) .nil)))⟩ (fun th hth => ?_) rfl
    rcases List.mem_cons.mp hth with rfl | hth
    · exact ⟨by omega, by omega, hza⟩
    rcases List.mem_cons.mp hth with rfl | hth
    · exact ⟨by rw [strLen_append]; omega, by rw [strLen_append]; show z.length + 1 ≤ 12; omega, app_al hza (one_al hc1)⟩
    rcases List.mem_cons.mp hth with rfl | hth
    · exact ⟨by rw [strLen_append]; show 1 ≤ 1 + _; omega, by rw [strLen_append]; show 1 + _ ≤ 12; omega, app_al (one_al hc2) (cut_al hza)⟩
    rw [List.mem_singleton.mp hth]
    exact ⟨by rw [rev_len]; omega, by rw [rev_len]; omega, rev_al hza⟩
def sp_law_days (K : PySem.W.Frag) : Sp := fun vs H Q _ => ∃ (h : Addr) (n : Nat), vs = [.ref h] ∧ HandAt H h n ∧ n ≤ 900000 ∧ ∀ (a : Addr) H' ths, KpH h H H' → HandAt H' h (n + 20) → H a = none → ListAt K H' a ths → (∀ th ∈ ths, Th.ok 3 th) → ths.length = 5 → Q (.ref a) H'
theorem ok_law_days (T : Txt K mg) : C8.Cal P w K mg base 6 "_law_days" (sp_law_days K) [] := by
  obtain ⟨fd, F⟩ := T.d_law_days
  refine cal_of F T.g_law_days (fun _ _ _ _ _ _ us hl => match us, hl with | [_], _ => rfl) sc_law_days (fun vs H Q E h => ?_) fun cdv A outer s H vs Q E hr h => ?_
  · obtain ⟨h, n, rfl, hh, hn, hq⟩ := h
    rfl
  · have hu := hu_of hr
    have hu64 := hr.units
    obtain ⟨h, n, rfl, hh, hn, hq⟩ := h
    refine ⟨_, (pss_cons (ps_par (i := 3) (j := 4) (by rfl) sc_law_days.nd rfl rfl (by decide) rfl rfl (pa_cons (C8.pe_c (ok_law_pick T) hr (by decide) rfl (pa_cons (pv 0) (pa_cons (pe_lst (pa_cons pe_int (pa_cons pe_int (pa_cons pe_int (pa_cons pe_int (pa_cons pe_int (pa_cons pe_int (pa_cons (pe_op op_add pe_int (C8.pe_c (ok_law_take T) hr (by decide) rfl (pa_cons (pv 0) (pa_cons pe_int pa_nil)))) pa_nil)))))))) pa_nil))) (pa_cons (pe_op op_add pe_int (C8.pe_c (ok_law_take T) hr (by decide) rfl (pa_cons (pv 0) (pa_cons pe_int pa_nil)))) pa_nil)) (by rfl))
    (pss_cons (ps_set (i := 1) sc_law_days.nd rfl (by first | exact Or.inl rfl | exact Or.inr rfl) (pe_op op_add pe_int (C8.pe_c (ok_law_take T) hr (by decide) rfl (pa_cons (pv 0) (pa_cons pe_int pa_nil)))))
    (pss_cons (ps_set (i := 2) sc_law_days.nd rfl (by first | exact Or.inl rfl | exact Or.inr rfl) (pe_op op_add pe_int (pe_op op_mod (pe_op op_add (pv 1) (C8.pe_c (ok_law_take T) hr (by decide) rfl (pa_cons (pv 0) (pa_cons pe_int pa_nil)))) pe_int)))
    (pss_one (ps_ret (pe_lst (pa_cons (C8.pe_mk (mk_Day_1 T) hr (by decide) rfl (pa_cons (pv 3) pa_nil)) (pa_cons (C8.pe_mk (mk_Day_2 T) hr (by decide) rfl (pa_cons (pv 3) (pa_cons (pv 4) pa_nil))) (pa_cons (C8.pe_mk (mk_Day_3 T) hr (by decide) rfl (pa_cons (pv 3) (pa_cons (pv 4) (pa_cons (pv 1) pa_nil)))) (pa_cons (C8.pe_mk (mk_Day_3 T) hr (by decide) rfl (pa_cons (pv 3) (pa_cons (pv 4) (pa_cons (pv 2) pa_nil)))) (pa_cons (C8.pe_mk (mk_Day_2 T) hr (by decide) rfl (pa_cons (pv 3) (pa_cons (pe_op op_add pe_int (pe_op op_mod (pv 4) pe_int)) pa_nil))) pa_nil))))))))))), ?_⟩
    refine ⟨_, rfl, _, rfl, h, n, 9999, rfl, hh, by omega, by decide, by decide, fun r1 H1 k1 hh1 a0 a1 => ⟨_, _, rfl, rfl, by show 7 ≤ sizeLine; decide, fun b hb => ?_⟩⟩
    refine ⟨h, _, .ref b, rfl, hh1.upd (hand_ne hh1 hb), by omega, .inl ⟨b, _, rfl, fun e => hand_ne hh1 hb e.symm, upd_same, (show 1 ≤ 7 by decide), (show 7 ≤ 1000 by decide), fun i v H2 k2 hh2 hv => ?_⟩⟩
    obtain ⟨y, rfl, y0, y1⟩ : ∃ y : Int, v = .int y ∧ 1 ≤ y ∧ y ≤ 9999 := by
      have := List.mem_of_getElem? hv
      simp only [List.mem_cons, List.not_mem_nil, or_false] at this
      rcases this with e | e | e | e | e | e | e <;> exact ⟨_, e, by omega, by omega⟩
    have kk2 : KpH h H H2 := (k1.new hb).trans k2
    refine ⟨_, rfl, h, _, 12, rfl, hh2, by omega, by decide, by decide, fun r3 H3 k3 hh3 m0 m1 => ⟨_, _, rfl, rfl, _, _, rfl, ?_⟩⟩
    refine next_ok ?_
    dsimp only
    refine ⟨_, rfl, h, _, 28, rfl, hh3, by omega, by decide, by decide, fun r4 H4 k4 hh4 d0 d1 => ⟨_, _, rfl, rfl, ?_⟩⟩
    refine next_ok ?_
    dsimp only
    refine ⟨_, rfl, _, rfl, h, _, 26, rfl, hh4, by omega, by decide, by decide, fun r5 H5 k5 hh5 o0 o1 => ⟨_, _, rfl, rfl, _, _, rfl, rfl, (by dsimp only; decide), _, _, rfl, rfl, ?_⟩⟩
    refine next_ok ?_
    dsimp only
    have kk5 : KpH h H H5 := ((kk2.trans k3).trans k4).trans k5
    generalize hot : (1 + (1 + r4 + r5) % 28 : Int) = ot
    have ot0 : 1 ≤ ot := by have := Int.emod_nonneg (1 + r4 + r5) (show (28 : Int) ≠ 0 by decide); omega
    have ot1 : ot ≤ 28 := by have := Int.emod_lt_of_pos (1 + r4 + r5) (show (0 : Int) < 28 by decide); omega
    have dok : ∀ m d : Option Int, (m = none → d = none) → (∀ i, m = some i → 1 ≤ i ∧ i ≤ 12) → (∀ i, d = some i → 1 ≤ i ∧ i ≤ 28) → DayOk y m d := fun m d a b c => ⟨y0, y1, a, b, c⟩
    have mr : ∀ i, some (1 + r3) = some i → 1 ≤ i ∧ i ≤ 12 := fun i e => by cases e; omega
    have ok1 : DayOk y none none := dok _ _ (fun _ => rfl) (fun _ z => nomatch z) (fun _ z => nomatch z)
    have ok2 : DayOk y (some (1 + r3)) none := dok _ _ (fun _ => rfl) mr (fun _ z => nomatch z)
    have ok3 : DayOk y (some (1 + r3)) (some (1 + r4)) := dok _ _ (fun z => nomatch z) mr (fun i e => by cases e; omega)
    have ok4 : DayOk y (some (1 + r3)) (some ot) := dok _ _ (fun z => nomatch z) mr (fun i e => by cases e; omega)
    have m50 := Int.emod_nonneg (1 + r3) (show (12 : Int) ≠ 0 by decide)
    have m51 := Int.emod_lt_of_pos (1 + r3) (show (0 : Int) < 12 by decide)
    have ok5 : DayOk y (some (1 + (1 + r3) % 12)) none := dok _ _ (fun _ => rfl) (fun i e => by cases e; omega) (fun _ z => nomatch z)
    refine ⟨_, rfl, fun x1 dx1 hx1 hdx1 hne1 => sp_day (y := y) (m := none) (d := none) hx1 hdx1 hne1 rfl ok1 fun G1 e1 t1 => ?_⟩
    refine ⟨_, rfl, _, rfl, fun x2 dx2 hx2 hdx2 hne2 => sp_day (y := y) (m := some (1 + r3)) (d := none) hx2 hdx2 hne2 rfl ok2 fun G2 e2 t2 => ?_⟩
    refine ⟨_, rfl, _, rfl, _, rfl, fun x3 dx3 hx3 hdx3 hne3 => sp_day (y := y) (m := some (1 + r3)) (d := some (1 + r4)) hx3 hdx3 hne3 rfl ok3 fun G3 e3 t3 => ?_⟩
    refine ⟨_, rfl, _, rfl, _, rfl, fun x4 dx4 hx4 hdx4 hne4 => sp_day (y := y) (m := some (1 + r3)) (d := some ot) hx4 hdx4 hne4 (by rw [← hot]; rfl) ok4 fun G4 e4 t4 => ?_⟩
    refine ⟨_, rfl, _, rfl, _, _, rfl, rfl, (by dsimp only; decide), _, _, rfl, rfl, fun x5 dx5 hx5 hdx5 hne5 => sp_day (y := y) (m := some (1 + (1 + r3) % 12)) (d := none) hx5 hdx5 hne5 rfl ok5 fun G5 e5 t5 => ?_⟩
    refine ⟨by show 5 ≤ sizeLine; decide, fun a ha => ?_⟩
    have eA : Ext H5 G5 := (((e1.trans e2).trans e3).trans e4).trans e5
    have kk : KpH h H G5 := kk5.trans (Kp.of eA)
    have hh6 := hh5.ext eA
    have eu : Ext G5 (upd G5 a (.lst [.ref x1, .ref x2, .ref x3, .ref x4, .ref x5])) := Ext.upd ha
    refine hq a _ [.day y none none, .day y (some (1 + r3)) none, .day y (some (1 + r3)) (some (1 + r4)), .day y (some (1 + r3)) (some ot), .day y (some (1 + (1 + r3) % 12)) none] (kk.new ha) ((hh6.mono (by omega)).upd (hand_ne hh6 ha)) (kk.free ha fun e => hand_ne hh6 ha e.symm) ⟨_, upd_same, ?_⟩ (fun th hth => ?_) rfl
    · exact .cons (t1.imm (Imm.of ((((e2.trans e3).trans e4).trans e5).trans eu))) (.cons (t2.imm (Imm.of (((e3.trans e4).trans e5).trans eu))) (.cons (t3.imm (Imm.of ((e4.trans e5).trans eu))) (.cons (t4.imm (Imm.of (e5.trans eu))) (.cons (t5.imm (Imm.of eu)) .nil))))
    · simp only [List.mem_cons, List.not_mem_nil, or_false] at hth
      rcases hth with e | e | e | e | e <;> subst e
      · exact ok1
      · exact ok2
      · exact ok3
      · exact ok4
      · exact ok5
end
end TW
set_option Elab.async false
set_option linter.all false
set_option maxRecDepth 100000
set_option maxHeartbeats 4000000
namespace TW
open PySem PySem.Spec PyProof.Rows L2
section
variable {P : Program} {w : World} {K : PySem.W.Frag} {mg : Str → Option Value} {base : Heap}

theorem cut_lo {l : List Nat} {k : Nat} (h : k ≤ l.length) : (cutS ⟨l.toArray⟩ none (some (k : Int))).cps.toList = l.take k := by
  unfold cutS
  rw [HT.sIx_nat, HT.sIx_none, arr_len]
  simp [Nat.min_eq_left h]
theorem cut_hi {l : List Nat} {k : Nat} (h : k ≤ l.length) : (cutS ⟨l.toArray⟩ (some (k : Int)) none).cps.toList = l.drop k := by
  unfold cutS
  rw [HT.sIx_nat, HT.sIx_none, arr_len, Nat.min_eq_left h]
  simp
  rw [← List.length_drop, List.take_length]
theorem ins_str {l : List Nat} {k c : Nat} (h : k ≤ l.length) : (cutS ⟨l.toArray⟩ none (some (k : Int)) ++ ⟨#[c]⟩) ++ cutS ⟨l.toArray⟩ (some (k : Int)) none = (⟨(l.take k ++ c :: l.drop k).toArray⟩ : Str) := by
  refine str_ext ?_
  show (((cutS ⟨l.toArray⟩ none (some (k : Int))).cps ++ #[c]) ++ (cutS ⟨l.toArray⟩ (some (k : Int)) none).cps).toList = _
  rw [Array.toList_append, Array.toList_append, cut_lo h, cut_hi h]
  simp
theorem erase_map {α β : Type} (f : α → β) : ∀ (l : List α) (j : Nat), (l.map f).eraseIdx j = (l.eraseIdx j).map f
  | [], _ => rfl
  | a :: l, 0 => rfl
  | a :: l, j + 1 => by
    show f a :: (l.map f).eraseIdx j = f a :: (l.eraseIdx j).map f
    rw [erase_map f l j]
theorem sLS_nd : sLS.cps.toList.Nodup := by decide +kernel
theorem sLS_len : sLS.cps.toList.length = 65 := by decide +kernel
theorem arr_inj {l l' : List Nat} (h : (⟨l.toArray⟩ : Str) = ⟨l'.toArray⟩) : l = l' := by
  have := congrArg (fun s : Str => s.cps.toList) h
  simpa using this
def sp_law_names (K : PySem.W.Frag) : Sp := fun vs H Q _ => ∃ (h : Addr) (n : Nat), vs = [.ref h, .int 5] ∧ HandAt H h n ∧ n ≤ 800000 ∧ ∀ (a : Addr) H' ws (ps : List (Str × Str)), KpH h H H' → HandAt H' h (n + 200) → H a = none → H' a = some (.lst ws) → Paired (NameAt H') ws ps → ps.length = 5 → (∀ p ∈ ps, NameOk p) → (ps.map (fun p => p.2)).Nodup → Q (.ref a) H'
theorem ok_law_names (T : Txt K mg) : C8.Cal P w K mg base 4 "_law_names" (sp_law_names K) [] := by
  obtain ⟨fd, F⟩ := T.d_law_names
  refine cal_of F T.g_law_names (fun _ _ _ _ _ _ us hl => match us, hl with | [_, _], _ => rfl) sc_law_names (fun vs H Q E h => ?_) fun cdv A outer s H vs Q E hr h => ?_
  · obtain ⟨h, n, rfl, hh, hn, hq⟩ := h
    rfl
  · have hu := hu_of hr
    have hu64 := hr.units
    obtain ⟨h, n, rfl, hh, hn, hq⟩ := h
    refine ⟨_, (pss_cons (ps_set (i := 2) sc_law_names.nd rfl (by first | exact Or.inl rfl | exact Or.inr rfl) (C8.pe_c (ok_law_text T) hr (by decide) rfl (pa_cons (pv 0) (pa_cons (pe_ix ix_list (pe_lst (pa_cons pe_int (pa_cons pe_int pa_nil))) (pe_callTy call_int1 (by rfl) T.f_int (by decide +kernel) (pa_cons (pe_cmpR op_eq (C8.pe_c (ok_law_take T) hr (by decide) rfl (pa_cons (pv 0) (pa_cons pe_int pa_nil))) pe_int (nomark _)) pa_nil)) (fun _ _ => rfl)) pa_nil))))
    (pss_cons (ps_par3 (i := 5) (j := 6) (l := 7) (by rfl) sc_law_names.nd rfl rfl rfl (by decide) (by decide) (by decide) rfl rfl rfl (pa_cons (C8.pe_c (ok_law_take T) hr (by decide) rfl (pa_cons (pv 0) (pa_cons (pe_op op_add (pe_callB call_len (by rfl) T.f_len (by decide +kernel) (pa_cons (pv 2) pa_nil)) pe_int) pa_nil))) (pa_cons (pe_callTy (call_listS rfl) (by rfl) T.f_list (by decide +kernel) (pa_cons (pe_c0 (ok_law_signs T) hr (by decide) rfl) pa_nil)) (pa_cons (pe_lst pa_nil) pa_nil))) (by rfl))
    (pss_cons (ps_set (i := 3) sc_law_names.nd rfl (by first | exact Or.inl rfl | exact Or.inr rfl) (pe_lst (pa_cons (C8.pe_c (ok_law_tongue T) hr (by decide) rfl (pa_cons (pv 0) pa_nil)) (pa_cons (C8.pe_c (ok_law_tongue T) hr (by decide) rfl (pa_cons (pv 0) pa_nil)) pa_nil))))
    (pss_cons (ps_for PassesOwn.never rfl (pi_range1 (by rfl) T.f_range (pa_cons (pv 1) pa_nil)) (pg_name (i := 4) sc_law_names.nd rfl (by first | exact Or.inl rfl | exact Or.inr rfl))
    (pss_cons (ps_set (i := 8) sc_law_names.nd rfl (by first | exact Or.inl rfl | exact Or.inr rfl) (pe_bm PySem.F.plainAttrs_list PySem.F.slot_list_pop PySem.F.type_list_pop mt_popAt (pv 6) (pa_cons (C8.pe_c (ok_law_take T) hr (by decide) rfl (pa_cons (pv 0) (pa_cons (pe_callB call_len (by rfl) T.f_len (by decide +kernel) (pa_cons (pv 6) pa_nil)) pa_nil))) pa_nil)))
    (pss_one (ps_expr (pe_bm PySem.F.plainAttrs_list PySem.F.slot_list_append PySem.F.type_list_append mt_append (pv 7) (pa_cons (pe_tup (pa_cons (C8.pe_c (ok_law_pick T) hr (by decide) rfl (pa_cons (pv 0) (pa_cons (pv 3) pa_nil))) (pa_cons (pe_op op_add_str (pe_op op_add_str (pe_slice sl_str (pv 2) po_none (po_some (pv 5))) (pv 8)) (pe_slice sl_str (pv 2) (po_some (pv 5)) po_none)) pa_nil))) pa_nil))))))
    (pss_one (ps_ret (pv 7))))))), ?_⟩
    refine seq_cut (fun σ H' => ∃ (l : List Nat) (s3 s4 s5 s6 s7 s8 : Option V), σ = [some (.ref h), some (.int 5), some (.str ⟨l.toArray⟩), s3, s4, s5, s6, s7, s8] ∧ KpH h H H' ∧ HandAt H' h (n + 101) ∧ TxtOk l ∧ LastOk l ∧ 1 ≤ l.length ∧ l.length ≤ 39) (fun N hN => ?_) (fun σ H' hP => ?_)
    · refine ⟨_, rfl, by show 2 ≤ sizeLine; decide, fun b hb => ?_⟩
      have hhb := hh.upd (o := .lst [V.int 12, .int 39]) (hand_ne hh hb)
      refine ⟨_, rfl, h, n, 8, rfl, hhb, by omega, by decide, by decide, fun r H1 k1 hh1 r0 r1 => ⟨rfl, .inr ⟨_, rfl, ?_⟩⟩⟩
      have hb1 : H1 b = some (.lst [V.int 12, .int 39]) := k1 _ _ (fun e => hand_ne hh hb e.symm) upd_same
      have kk : KpH h H H1 := (Kp.of (Ext.upd hb)).trans k1
      by_cases hr : V.int r = V.int 7
      · rw [decide_eq_true hr]
        refine ⟨b, _, 1, _, rfl, rfl, SqL.of hb1, rfl, h, _, 39, rfl, hh1, by omega, by decide, by decide, fun l H2 k2 hh2 t1 t2 l1 l2 => hN _ _ ⟨l, _, _, _, _, _, _, rfl, kk.trans k2, hh2.mono (by omega), t1, t2, l1, by omega⟩⟩
      · rw [decide_eq_false hr]
        refine ⟨b, _, 0, _, rfl, rfl, SqL.of hb1, rfl, h, _, 12, rfl, hh1, by omega, by decide, by decide, fun l H2 k2 hh2 t1 t2 l1 l2 => hN _ _ ⟨l, _, _, _, _, _, _, rfl, kk.trans k2, hh2.mono (by omega), t1, t2, l1, by omega⟩⟩
    obtain ⟨l, s3, s4, s5, s6, s7, s8, rfl, kk, hh1, tx, la, l1, l2⟩ := hP
    have hsl : (⟨l.toArray⟩ : Str).length ≤ sizeLine := by rw [arr_len]; exact Nat.le_trans l2 (by decide)
    refine ⟨_, rfl, _, rfl, _, _, rfl, ⟨hsl, rfl⟩, _, _, rfl, rfl, h, _, _, rfl, hh1, by omega, by omega, (by rw [arr_len]; omega), fun r H2 k2 hh2 r0 r1 => ⟨rfl, sLS, rfl, (by decide +kernel), fun sg hsg => ⟨by show 0 ≤ sizeLine; decide, fun fd hfd => ⟨_, _, _, rfl, ?_⟩⟩⟩⟩
    refine next_ok ?_
    dsimp only
    rw [arr_len] at r1
    obtain ⟨k, rfl⟩ : ∃ k : Nat, r = k := ⟨r.toNat, by omega⟩
    have hk : k ≤ l.length := by omega
    have kk2 : KpH h H H2 := kk.trans k2
    have hsg0 : H sg = none := kk2.free hsg fun e => hand_ne hh2 hsg e.symm
    have hfd1 : H2 fd = none := Ext.free (Ext.upd hsg) hfd
    have hfd0 : H fd = none := kk2.free hfd1 fun e => hand_ne hh2 hfd1 e.symm
    have hsf : sg ≠ fd := fun e => by subst e; rw [upd_same] at hfd; cases hfd
    generalize hG : upd (upd H2 sg (.lst (sLS.cps.toList.map sgn))) fd (.lst []) = G
    have e2 : Ext H2 G := by rw [← hG]; exact (Ext.upd hsg).trans (Ext.upd hfd)
    have hGs : G sg = some (.lst (sLS.cps.toList.map sgn)) := by rw [← hG, upd_ne hsf, upd_same]
    have hGf : G fd = some (.lst []) := by rw [← hG, upd_same]
    have hne_s : sg ≠ h := fun e => hand_ne hh2 hsg e.symm
    have hne_f : fd ≠ h := fun e => hand_ne hh2 hfd1 e.symm
    refine ⟨_, rfl, h, _, rfl, hh2.ext e2, by omega, fun z1 H3 k3 hh3 z1a z1b z1l => ⟨_, rfl, h, _, rfl, hh3, by omega, fun z2 H4 k4 hh4 z2a z2b z2l => ⟨by show 2 ≤ sizeLine; decide, fun tg htg => ?_⟩⟩⟩
    refine next_ok ?_
    dsimp only
    have kG : KpH h G H4 := k3.trans k4
    have hts : tg ≠ sg := fun e => by rw [e, kG _ _ hne_s hGs] at htg; cases htg
    have htf : tg ≠ fd := fun e => by rw [e, kG _ _ hne_f hGf] at htg; cases htg
    have hth : tg ≠ h := fun e => hand_ne hh4 htg e.symm
    have kk4 : KpH h H H4 := (kk2.trans (Kp.of e2)).trans kG
    have htg0 : H tg = none := kk4.free htg hth
    refine ⟨_, rfl, 5, rfl, by decide, by decide, ?_⟩
    refine for_src src_range (fun i σ H' => ∃ (ss : List Nat) (ws : List V) (ps : List (Str × Str)) (s4 s8 : Option V), σ = [some (.ref h), some (.int 5), some (.str ⟨l.toArray⟩), some (.ref tg), s4, some (.int k), some (.ref sg), some (.ref fd), s8] ∧ KpH h H H' ∧ HandAt H' h (n + 122 + 2 * i) ∧ H' tg = some (.lst [.str z1, .str z2]) ∧ H' sg = some (.lst (ss.map sgn)) ∧ ss.length + i = 65 ∧ ss.Nodup ∧ (∀ c ∈ ss, c ∈ sLS.cps.toList) ∧
        H' fd = some (.lst ws) ∧ Paired (NameAt H') ws ps ∧ ps.length = i ∧ (∀ p ∈ ps, NameOk p ∧ ∃ c, c ∈ sLS.cps.toList ∧ c ∉ ss ∧ p.2 = ⟨(l.take k ++ c :: l.drop k).toArray⟩) ∧ (ps.map (fun p => p.2)).Nodup)
      ⟨sLS.cps.toList, [], [], _, _, rfl, kk4.new htg, (hh4.mono (by omega)).upd hth.symm, upd_same, by rw [upd_ne hts.symm]; exact kG _ _ hne_s hGs, by rw [sLS_len], sLS_nd, fun _ h => h, by rw [upd_ne htf.symm]; exact kG _ _ hne_f hGf, .nil, rfl, (fun _ h => nomatch h), List.nodup_nil⟩ (fun _ _ _ _ _ => True.intro) (fun i x σ G1 G2 hi hP hy => ?_) fun σ H' hP => ?_
    · obtain ⟨rfl, rfl⟩ := hy
      have hi5 : i < 5 := hi
      obtain ⟨ss, ws, ps, s4', s8', rfl, kk5, hh5, ht5, hs5, sl, snd, sub, hf5, hp5, pl, pok, pnd⟩ := hP
      refine ⟨_, rfl, .inl ⟨rfl, _, SqL.of hs5⟩, _, rfl, _, rfl, _, _, rfl, .inl ⟨_, SqL.of hs5, rfl⟩, h, _, _, rfl, hh5, by omega, (by rw [List.length_map]; omega), (by rw [List.length_map]; omega), fun r H6 k6 hh6 r0 r1 => ?_⟩
      obtain ⟨j, rfl⟩ : ∃ j : Nat, r = j := ⟨r.toNat, by omega⟩
      rw [List.length_map] at r1
      have hj : j < ss.length := by omega
      have hj? : (ss.map sgn)[j]? = some (sgn ss[j]) := by rw [List.getElem?_map, List.getElem?_eq_getElem hj]; rfl
      obtain ⟨j', q1, q2, _, _, _⟩ := atI_get (atI_nat hj?)
      have ej : j' = j := by
        obtain ⟨j2, g1, g2, _⟩ := atI_get (xs := List.range (ss.map sgn).length) (i := (j : Int)) (v := j) (atI_nat (by rw [List.getElem?_range (by rw [List.length_map]; exact hj)]))
        rw [List.length_range, q1] at g1
        injection g1 with g1
        subst g1
        rw [List.getElem?_range (by rw [List.length_map]; have := (List.getElem?_eq_some_iff.mp q2).1; rw [List.length_map] at this; exact this)] at g2
        exact Option.some.inj g2
      subst ej
      refine ⟨sg, _, _, j', _, rfl, rfl, k6 _ _ hne_s hs5, by omega, by omega, q1, hj?, ?_⟩
      refine next_ok ?_
      dsimp only
      generalize hc : ss[j'] = c
      have hcm : c ∈ ss := by rw [← hc]; exact List.getElem_mem hj
      have her : (ss.map sgn).eraseIdx j' = (ss.eraseIdx j').map sgn := erase_map sgn ss j'
      have sub' : (ss.eraseIdx j').Sublist ss := List.eraseIdx_sublist ss j'
      have hcn : c ∉ ss.eraseIdx j' := fun hm => by
        rw [List.mem_eraseIdx_iff_getElem?] at hm
        obtain ⟨i', hne, hi'⟩ := hm
        have hj2 : ss[j']? = some c := by rw [List.getElem?_eq_getElem hj, hc]
        exact hne ((List.getElem?_inj (List.getElem?_eq_some_iff.mp hi').1 snd).mp (hi'.trans hj2.symm))
      rw [her]
      have kk6 : KpH h H H6 := kk5.trans k6
      have kk7 : KpH h H (upd H6 sg (.lst ((ss.eraseIdx j').map sgn))) := kk6.mut hsg0
      have hh7 := hh6.upd (o := .lst ((ss.eraseIdx j').map sgn)) hne_s.symm
      have ht7 : upd H6 sg (.lst ((ss.eraseIdx j').map sgn)) tg = some (.lst [.str z1, .str z2]) := by rw [upd_ne hts]; exact k6 _ _ hth ht5
      have hf7 : upd H6 sg (.lst ((ss.eraseIdx j').map sgn)) fd = some (.lst ws) := by rw [upd_ne hsf.symm]; exact k6 _ _ hne_f hf5
      have im7 : Imm G2 (upd H6 sg (.lst ((ss.eraseIdx j').map sgn))) := (KpH.imm k6 hh5).trans (Imm.upd fun o' e => by rw [k6 _ _ hne_s hs5] at e; rw [← Option.some.inj e]; rfl)
      have hp7 := prd_mono (fun _ _ q => NameAt.imm im7 q) hp5
      have hs7 : upd H6 sg (.lst ((ss.eraseIdx j').map sgn)) sg = some (.lst ((ss.eraseIdx j').map sgn)) := upd_same
      generalize upd H6 sg (.lst ((ss.eraseIdx j').map sgn)) = H7 at kk7 hh7 ht7 hf7 im7 hp7 hs7
      refine ⟨_, rfl, .inl ⟨rfl, _, SqL.of hf7⟩, _, rfl, _, rfl, h, _, _, rfl, hh7, by omega, .inl ⟨tg, _, rfl, hth, ht7, (show 1 ≤ 2 by decide), (show 2 ≤ 1000 by decide), fun m v H8 k8 hh8 hv => ?_⟩⟩
      obtain ⟨z, rfl, za, zb, zl⟩ : ∃ z, v = .str z ∧ 2 ≤ z.length ∧ z.length ≤ 3 ∧ inAl sLET z := by
        have := List.mem_of_getElem? hv
        simp only [List.mem_cons, List.not_mem_nil, or_false] at this
        rcases this with e | e
        · exact ⟨z1, e, z1a, z1b, z1l⟩
        · exact ⟨z2, e, z2a, z2b, z2l⟩
      have c1 := cut_len (x := (⟨l.toArray⟩ : Str)) (lo := none) (hi := some (k : Int))
      have c2 := cut_len (x := (⟨l.toArray⟩ : Str)) (lo := some (k : Int)) (hi := none)
      rw [arr_len l] at c1 c2
      refine ⟨_, rfl, _, rfl, (k : Int), rfl, _, rfl, hsl, _, rfl, _, _, rfl, rfl, (by show _ + 1 ≤ 16777216; omega), _, rfl, _, rfl, (k : Int), rfl, _, rfl, hsl, _, _, rfl, rfl, (by rw [strLen_append]; show _ + 1 + _ ≤ 16777216; omega), by show 2 ≤ sizeLine; decide, fun q hq' => ?_⟩
      rw [ins_str hk]
      have e8 : Ext H8 (upd H8 q (.tup [.str z, .str ⟨(l.take k ++ c :: l.drop k).toArray⟩])) := Ext.upd hq'
      have hf8 := k8 _ _ hne_f hf7
      have hwl : ws.length = i := by rw [prd_len hp5, pl]
      refine ⟨fd, ws, _, rfl, rfl, e8 _ _ hf8, by rw [hwl]; exact Nat.lt_trans hi5 (by decide), ?_⟩
      have hcs := sub c hcm
      obtain ⟨hcS, hc32⟩ := ls_ok hcs
      obtain ⟨tx', la'⟩ := txt_ins tx la hk hcS hc32
      have ln' : (l.take k ++ c :: l.drop k).length = l.length + 1 := by rw [List.length_append, List.length_cons, List.length_take, List.length_drop]; omega
      have nok : NameOk (z, ⟨(l.take k ++ c :: l.drop k).toArray⟩) := ⟨za, zb, zl, called_of tx' la' (by omega) (by omega)⟩
      have hqf : q ≠ fd := fun e => by rw [e, hf8] at hq'; cases hq'
      have hqh : q ≠ h := fun e => hand_ne hh8 hq' e.symm
      have hqs : q ≠ sg := fun e => by rw [e, k8 _ _ hne_s hs7] at hq'; cases hq'
      have hqt : q ≠ tg := fun e => by rw [e, k8 _ _ hth ht7] at hq'; cases hq'
      refine ⟨ss.eraseIdx j', ws ++ [.ref q], ps ++ [(z, ⟨(l.take k ++ c :: l.drop k).toArray⟩)], _, _, rfl, ((kk7.trans k8).new hq').mut hfd0, ((hh8.mono (by omega)).upd hqh.symm).upd hne_f.symm, ?_, ?_, ?_, snd.sublist sub', fun d hd => sub d (sub'.subset hd), upd_same, ?_, by rw [List.length_append, pl]; rfl, fun p hp => ?_, ?_⟩
      · rw [upd_ne htf, upd_ne hqt.symm]; exact k8 _ _ hth ht7
      · rw [upd_ne hsf, upd_ne hqs.symm]; exact k8 _ _ hne_s hs7
      · rw [List.length_eraseIdx_of_lt hj]; omega
      · have im8 : Imm H7 (upd (upd H8 q (.tup [.str z, .str ⟨(l.take k ++ c :: l.drop k).toArray⟩])) fd (.lst (ws ++ [.ref q]))) := ((KpH.imm k8 hh7).trans (Imm.of e8)).trans (imm_lst (e8 _ _ hf8))
        exact prd_app (prd_mono (fun _ _ z => NameAt.imm im8 z) hp7) (.cons ⟨q, rfl, by rw [upd_ne hqf, upd_same]⟩ .nil)
      · rcases List.mem_append.mp hp with hp | hp
        · obtain ⟨o1, c', o2, o3, o4⟩ := pok p hp
          exact ⟨o1, c', o2, fun hm => o3 (sub'.subset hm), o4⟩
        · rw [List.mem_singleton.mp hp]
          exact ⟨nok, c, hcs, hcn, rfl⟩
      · rw [List.map_append, List.nodup_append]
        refine ⟨pnd, by simp, fun a ha b hb e => ?_⟩
        obtain ⟨p, hp, rfl⟩ := List.mem_map.mp ha
        obtain ⟨o1, c', o2, o3, o4⟩ := pok p hp
        have hb : b = ⟨(l.take k ++ c :: l.drop k).toArray⟩ := by simpa using hb
        rw [o4, hb] at e
        exact o3 (by rw [ins_inj (arr_inj e)]; exact hcm)
    · obtain ⟨ss, ws, ps, s4', s8', rfl, kk5, hh5, ht5, hs5, sl, snd, sub, hf5, hp5, pl, pok, pnd⟩ := hP
      exact ⟨_, rfl, hq fd H' ws ps kk5 (hh5.mono (by show n + 122 + 2 * 5 ≤ _; omega)) hfd0 hf5 hp5 pl (fun p hp => (pok p hp).1) pnd⟩
end
end TW
set_option Elab.async false
set_option linter.all false
set_option maxRecDepth 100000
set_option maxHeartbeats 4000000
namespace TW
open PySem PySem.Spec PyProof.Rows L2
section
variable {P : Program} {w : World} {K : PySem.W.Frag} {mg : Str → Option Value} {base : Heap}

/-- the pools: lists of things, by field -/
def PoolsAt (K : PySem.W.Frag) (H : Hp) (a : Addr) (P : List (List Th)) : Prop := ∃ ls : List Addr, H a = some (.lst (ls.map V.ref)) ∧ Paired (ListAt K H) ls P
structure PoolsOk (P : List (List Th)) : Prop where
  len : P.length = 5
  each : ∀ (i : Nat) (ths : List Th), P[i]? = some ths → (∀ th ∈ ths, Th.ok i th) ∧ 1 ≤ ths.length ∧ ths.length ≤ 1000
theorem hand_lst {H : Hp} {h a : Addr} {n : Nat} {v : V} {vs : List V} (hh : HandAt H h n) (ha : H a = some (.lst (v :: vs))) (hv : ∀ i, v ≠ .int i) : a ≠ h := fun e => by
  obtain ⟨g, s, t, q, _⟩ := hh
  rw [e, q] at ha
  injection ha with ha
  injection ha with ha
  injection ha with ha _
  exact hv g ha.symm
theorem th_nint {K : PySem.W.Frag} {H : Hp} {v : V} {th : Th} (h : ThAt K H v th) : ∀ i, v ≠ .int i := fun i e => by
  subst e
  cases th with
  | code s => exact V.noConfusion (show V.int i = .str s from h)
  | name t x => obtain ⟨a, e, _⟩ := h; cases e
  | players l => obtain ⟨a, _, e, _⟩ := h; cases e
  | day y m d => obtain ⟨a, _, e, _⟩ := h; cases e
  | len n => obtain ⟨a, _, e, _⟩ := h; cases e
theorem ListAt.kp {H H' : Hp} {h l : Addr} {n : Nat} {ths : List Th} (k : KpH h H H') (hh : HandAt H h n) (ne : l ≠ h) (a : ListAt K H l ths) : ListAt K H' l ths :=
  let ⟨vs, h1, h2⟩ := a; ⟨vs, k _ _ ne h1, prd_mono (fun _ _ q => q.imm (KpH.imm k hh)) h2⟩
theorem ListAt.ne {H : Hp} {h l : Addr} {n : Nat} {ths : List Th} (hh : HandAt H h n) (a : ListAt K H l ths) (h1 : 1 ≤ ths.length) : l ≠ h := by
  obtain ⟨vs, e, p⟩ := a
  cases p with
  | nil => simp at h1
  | cons q t => exact hand_lst hh e (th_nint q)
theorem PoolsAt.kp {H H' : Hp} {h a : Addr} {n : Nat} {P : List (List Th)} (ok : PoolsOk P) (k : KpH h H H') (hh : HandAt H h n) (q : PoolsAt K H a P) : a ≠ h ∧ PoolsAt K H' a P := by
  obtain ⟨ls, e, p⟩ := q
  have hne : a ≠ h := by
    cases p with
    | nil => have := ok.len; simp at this
    | cons q t => exact hand_lst hh e (fun i z => nomatch z)
  have ok' : ∀ ths ∈ P, 1 ≤ ths.length := fun ths hm => by
    obtain ⟨i, hi⟩ := List.mem_iff_getElem?.mp hm
    exact (ok.each i ths hi).2.1
  have key : ∀ {ls : List Addr} {P : List (List Th)}, (∀ ths ∈ P, 1 ≤ ths.length) → Paired (ListAt K H) ls P → Paired (ListAt K H') ls P := fun {ls P} => by
    induction P generalizing ls with
    | nil => intro _ p; cases p; exact .nil
    | cons t P ih =>
      intro o p
      cases p with
      | cons a r => exact .cons (ListAt.kp k hh (ListAt.ne hh a (o _ List.mem_cons_self)) a) (ih (fun x hx => o x (List.mem_cons_of_mem _ hx)) r)
  exact ⟨hne, ls, k _ _ hne e, key ok' p⟩
/-- a list of names -/
def NamesAt (H : Hp) (a : Addr) (l : List (Str × Str)) : Prop := ∃ ws, H a = some (.lst ws) ∧ Paired (NameAt H) ws l
theorem NamesAt.ext {H H' : Hp} {a : Addr} {l : List (Str × Str)} (e : Ext H H') (q : NamesAt H a l) : NamesAt H' a l := let ⟨ws, h1, h2⟩ := q; ⟨ws, e _ _ h1, prd_mono (fun _ _ z => NameAt.imm (Imm.of e) z) h2⟩
theorem NamesAt.kp {H H' : Hp} {h a : Addr} {n : Nat} {l : List (Str × Str)} (k : KpH h H H') (hh : HandAt H h n) (ne : a ≠ h) (q : NamesAt H a l) : NamesAt H' a l := let ⟨ws, h1, h2⟩ := q; ⟨ws, k _ _ ne h1, prd_mono (fun _ _ z => NameAt.imm (KpH.imm k hh) z) h2⟩
theorem names_ok {K : PySem.W.Frag} {H : Hp} {ws : List V} {l : List (Str × Str)} (h : Paired (NameAt H) ws l) : SortOk K H ((ws.zip l).map fun p => (p.1, nmark p.2)) ∧ ((ws.zip l).map fun p => ((p.1, nmark p.2) : VD)).map Prod.fst = ws :=
  sortOk_of h (fun v x h => dp_name h) (fun d hd d' hd' => by
    obtain ⟨t, _, rfl⟩ := List.mem_map.mp hd
    obtain ⟨t', _, rfl⟩ := List.mem_map.mp hd'
    exact alike_name t t') (.inl fun d hd => by
    obtain ⟨t, _, rfl⟩ := List.mem_map.mp hd
    exact ⟨_, _, rfl⟩) fun x _ => by simp [nmark, PyData.depth, PyData.depthAll]
theorem NamesAt.ne {H : Hp} {h a : Addr} {n : Nat} {l : List (Str × Str)} (hh : HandAt H h n) (q : NamesAt H a l) (h1 : 1 ≤ l.length) : a ≠ h := by
  obtain ⟨ws, e, p⟩ := q
  cases p with
  | nil => simp at h1
  | cons q t => exact hand_lst hh e (fun i z => by obtain ⟨b, e, _⟩ := q; rw [e] at z; cases z)
theorem players_one {p : Str × Str} (h : NameOk p) : PlayersOk [p] := ⟨by simp, by simp, fun q hq => by rw [List.mem_singleton.mp hq]; exact h, fun i a b h1 h2 => by simp at h2⟩
def sortN (l : List (Str × Str)) : List (Str × Str) := l.mergeSort (PySem.W.dataLe false nmark)
def sp_law_pools (K : PySem.W.Frag) : Sp := fun vs H Q _ => ∃ (h : Addr) (n : Nat), vs = [.ref h] ∧ HandAt H h n ∧ n ≤ 700000 ∧ ∀ (a : Addr) H' P, KpH h H H' → HandAt H' h (n + 1000) → H a = none → PoolsAt K H' a P → PoolsOk P → Q (.ref a) H'
theorem ok_law_pools (T : Txt K mg) : C8.Cal P w K mg base 7 "_law_pools" (sp_law_pools K) [] := by
  obtain ⟨fd, F⟩ := T.d_law_pools
  refine cal_of F T.g_law_pools (fun _ _ _ _ _ _ us hl => match us, hl with | [_], _ => rfl) sc_law_pools (fun vs H Q E h => ?_) fun cdv A outer s H vs Q E hr h => ?_
  · obtain ⟨h, n, rfl, hh, hn, hq⟩ := h
    rfl
  · have hu := hu_of hr
    have hu64 := hr.units
    obtain ⟨h, n, rfl, hh, hn, hq⟩ := h
    refine ⟨_, (pss_cons (ps_par (i := 4) (j := 5) (by rfl) sc_law_pools.nd rfl rfl (by decide) rfl rfl (pa_cons (C8.pe_c (ok_law_names T) hr (by decide) rfl (pa_cons (pv 0) (pa_cons pe_int pa_nil))) (pa_cons (C8.pe_c (ok_law_pick T) hr (by decide) rfl (pa_cons (pv 0) (pa_cons (pe_lst (pa_cons pe_int (pa_cons pe_int (pa_cons pe_int (pa_cons pe_int (pa_cons (C8.pe_c (ok_law_take T) hr (by decide) rfl (pa_cons (pv 0) (pa_cons pe_int pa_nil))) pa_nil)))))) pa_nil))) pa_nil)) (by rfl))
    (pss_cons (ps_set (i := 1) sc_law_pools.nd rfl (by first | exact Or.inl rfl | exact Or.inr rfl) (pe_tup (pa_cons (pe_ifExp (pt_cmpR op_ne (pe_ix ix_tup (pe_ix ix_list (pv 4) pe_int (fun _ _ => rfl)) pe_int (fun _ _ => rfl)) pe_str (nomark _)) pe_str pe_str) (pa_cons (pe_ix ix_tup (pe_ix ix_list (pv 4) pe_int (fun _ _ => rfl)) pe_int (fun _ _ => rfl)) pa_nil))))
    (pss_cons (ps_set (i := 2) sc_law_pools.nd rfl (by first | exact Or.inl rfl | exact Or.inr rfl) (pe_lst (pa_cons (pe_slice sl_list (pv 4) po_none (po_some pe_int)) (pa_cons (pe_callB (cr_sortL hu64) (by rfl) T.f_sorted (by decide +kernel) (pa_cons (pe_slice sl_list (pv 4) po_none (po_some pe_int)) pa_nil)) (pa_cons (pe_callB (cr_sortL hu64) (by rfl) T.f_sorted (by decide +kernel) (pa_cons (pe_slice sl_list (pv 4) (po_some pe_int) (po_some pe_int)) pa_nil)) (pa_cons (pe_callB (cr_sortL hu64) (by rfl) T.f_sorted (by decide +kernel) (pa_cons (pe_op op_cat (pe_slice sl_list (pv 4) po_none (po_some pe_int)) (pe_lst (pa_cons (pv 1) pa_nil))) pa_nil)) (pa_cons (pe_lst (pa_cons (pv 1) pa_nil)) pa_nil)))))))
    (pss_cons (ps_set (i := 3) sc_law_pools.nd rfl (by first | exact Or.inl rfl | exact Or.inr rfl) (pe_lst (pa_cons (C8.pe_mk (mk_Length_1 T) hr (by decide) rfl (pa_cons (pv 5) pa_nil)) (pa_cons (C8.pe_mk (mk_Length_1 T) hr (by decide) rfl (pa_cons (pe_op op_add (pv 5) pe_int) pa_nil)) (pa_cons (C8.pe_mk (mk_Length_1 T) hr (by decide) rfl (pa_cons (pe_op op_sub pe_int (pv 5)) pa_nil)) pa_nil)))))
    (pss_one (ps_ret (pe_lst (pa_cons (C8.pe_c (ok_law_codes T) hr (by decide) rfl (pa_cons (pv 0) pa_nil)) (pa_cons (pe_op op_cat (pe_slice sl_list (pv 4) (po_some pe_int) po_none) (pe_lst (pa_cons (pv 1) pa_nil))) (pa_cons (pe_lc (own := [("_law_some", 6)]) (by rfl) sc_law_pools.nd (pi_list (pv 2)) (blkOk_by (N := N_law_pools) (sc := defScope s_law_pools) (by decide +kernel)) (fun _ _ _ _ _ => (pg_name (i := 6) sc_law_pools.nd rfl (by first | exact Or.inl rfl | exact Or.inr rfl))) (fun _ _ _ _ _ => by exact pts_nil) (fun _ _ _ _ _ => by exact (pe_callTy (kTupleOf K) (by rfl) T.f_tuple (by decide +kernel) (pa_cons (pv 6) pa_nil)))) (pa_cons (C8.pe_c (ok_law_days T) hr (by decide) rfl (pa_cons (pv 0) pa_nil)) (pa_cons (pv 3) pa_nil)))))))))))), ?_⟩
    refine ⟨_, rfl, h, n, rfl, hh, by omega, fun a H1 ws ps k1 hh1 ha0 haw hp hl hok hnd => ?_⟩
    refine ⟨_, rfl, _, rfl, h, _, 359999, rfl, hh1, by omega, by decide, by decide, fun r H2 k2 hh2 r0 r1 => ⟨by show 5 ≤ sizeLine; decide, fun b hb => ?_⟩⟩
    refine ⟨h, _, .ref b, rfl, hh2.upd (hand_ne hh2 hb), by omega, .inl ⟨b, _, rfl, fun e => hand_ne hh2 hb e.symm, upd_same, (show 1 ≤ 5 by decide), (show 5 ≤ 1000 by decide), fun i v H3 k3 hh3 hv => ⟨_, _, rfl, ?_⟩⟩⟩
    refine next_ok ?_
    dsimp only
    obtain ⟨st, rfl, s0, s1⟩ : ∃ st : Int, v = .int st ∧ 0 ≤ st ∧ st ≤ 359998 := by
      have := List.mem_of_getElem? hv
      simp only [List.mem_cons, List.not_mem_nil, or_false] at this
      rcases this with e | e | e | e | e <;> exact ⟨_, e, by omega, by omega⟩
    have hah : a ≠ h := fun e => by subst e; exact absurd rfl (hand_ne hh ha0)
    have kk3 : KpH h H1 H3 := (k2.new hb).trans k3
    have na3 : NamesAt H3 a ps := NamesAt.kp kk3 hh1 hah ⟨ws, haw, hp⟩
    have kH : KpH h H H3 := k1.trans kk3
    obtain ⟨p0, p1, p2, p3, p4, rfl⟩ := five_of hl
    obtain ⟨ws', haw', hp'⟩ := na3
    obtain ⟨w0, w1, w2, w3, w4, rfl⟩ := five_of (prd_len hp')
    obtain ⟨_, _, _, _, _, he, n0, n1, n2, n3, n4⟩ := prd5 hp'
    simp only [List.cons.injEq, and_true] at he
    obtain ⟨rfl, rfl, rfl, rfl, rfl⟩ := he
    obtain ⟨q0, rfl, hq0⟩ := id n0
    obtain ⟨ft, hft, fto⟩ : ∃ ft : Str, (if p0.1 ≠ Str.ofString "zz" then ft = Str.ofString "zz" else ft = Str.ofString "yy") ∧ (ft ≠ p0.1 ∧ 2 ≤ ft.length ∧ ft.length ≤ 3 ∧ inAl sLET ft) := by
      by_cases e : p0.1 = Str.ofString "zz"
      · refine ⟨Str.ofString "yy", by rw [if_neg (fun z => z e)], ?_, by decide +kernel, by decide +kernel, ?_⟩
        · rw [e]; decide +kernel
        · unfold inAl; decide +kernel
      · refine ⟨Str.ofString "zz", by rw [if_pos e], fun z => e z.symm, by decide +kernel, by decide +kernel, ?_⟩
        unfold inAl; decide +kernel
    refine seq_cut (fun σ H' => ∃ fa, σ = [some (.ref h), some (.ref fa), none, none, some (.ref a), some (.int st), none] ∧ Ext H3 H' ∧ H' fa = some (.tup [.str ft, .str p0.2])) (fun N hN => ?_) (fun σ H' hP => ?_)
    · refine ⟨_, rfl, a, _, 0, _, rfl, rfl, SqL.of haw', rfl, q0, _, 0, _, rfl, rfl, SqT.of hq0, rfl, rfl, _, rfl, ?_⟩
      by_cases e : p0.1 = Str.ofString "zz"
      · rw [if_neg (fun z => z e)] at hft
        subst hft
        exact if_ndecF (by rw [e]) ⟨_, rfl, a, _, 0, _, rfl, rfl, SqL.of haw', rfl, q0, _, 1, _, rfl, rfl, SqT.of hq0, rfl, by show 2 ≤ sizeLine; decide, fun fa hfa => hN _ _ ⟨fa, rfl, Ext.upd hfa, upd_same⟩⟩
      · rw [if_pos e] at hft
        subst hft
        exact if_ndecT (fun z => e (by injection z)) ⟨_, rfl, a, _, 0, _, rfl, rfl, SqL.of haw', rfl, q0, _, 1, _, rfl, rfl, SqT.of hq0, rfl, by show 2 ≤ sizeLine; decide, fun fa hfa => hN _ _ ⟨fa, rfl, Ext.upd hfa, upd_same⟩⟩
    obtain ⟨fa, rfl, e4, hfa⟩ := hP
    have okf : NameOk (ft, p0.2) := ⟨fto.2.1, fto.2.2.1, fto.2.2.2, (hok p0 (by simp)).called⟩
    have pn : ∀ {G : Hp}, Ext H3 G → Paired (NameAt G) [.ref q0, w1, w2, w3, w4] [p0, p1, p2, p3, p4] := fun e => prd_mono (fun _ _ z => NameAt.imm (Imm.of e) z) hp'
    have fn : ∀ {G : Hp}, Ext H' G → NameAt G (.ref fa) (ft, p0.2) := fun e => ⟨fa, rfl, e _ _ hfa⟩
    refine ⟨_, rfl, 1, rfl, a, _, rfl, SqL.of (e4 _ _ haw'), fun l1 hl1 => ?_⟩
    generalize hG1 : upd H' l1 _ = G1
    have e1 : Ext H' G1 := by rw [← hG1]; exact Ext.upd hl1
    have t1 : NamesAt G1 l1 [p0] := ⟨[.ref q0], by rw [← hG1]; exact upd_same, by
      have := pn (e4.trans e1)
      cases this with | cons a _ => exact .cons a .nil⟩
    refine ⟨_, rfl, 2, rfl, a, _, rfl, SqL.of (e1 _ _ (e4 _ _ haw')), fun l2 hl2 => ?_⟩
    generalize hG2 : upd G1 l2 _ = G2
    have e2 : Ext G1 G2 := by rw [← hG2]; exact Ext.upd hl2
    obtain ⟨ws2, b2, c2⟩ : NamesAt G2 l2 [p0, p1] := ⟨[.ref q0, w1], by rw [← hG2]; exact upd_same, by
      have := pn ((e4.trans e1).trans e2)
      cases this with | cons a t => cases t with | cons b _ => exact .cons a (.cons b .nil)⟩
    obtain ⟨so2, sf2⟩ := names_ok (K := K) c2
    refine ⟨l2, _, rfl, SqL.of (by rw [sf2]; exact b2), so2, fun l3 hl3 => ?_⟩
    generalize hG3 : upd G2 l3 _ = G3
    have e3 : Ext G2 G3 := by rw [← hG3]; exact Ext.upd hl3
    have t3 : NamesAt G3 l3 (sortN [p0, p1]) := ⟨_, by rw [← hG3]; exact upd_same, prd_mono (fun _ _ z => NameAt.imm (Imm.of e3) z) (srt_prd c2)⟩
    have E3 : Ext H' G3 := (e1.trans e2).trans e3
    refine ⟨_, rfl, 1, rfl, 3, rfl, a, _, rfl, SqL.of (E3 _ _ (e4 _ _ haw')), fun l4 hl4 => ?_⟩
    generalize hG4 : upd G3 l4 _ = G4
    have f4 : Ext G3 G4 := by rw [← hG4]; exact Ext.upd hl4
    obtain ⟨ws4, b4, c4⟩ : NamesAt G4 l4 [p1, p2] := ⟨[w1, w2], by rw [← hG4]; exact upd_same, by
      have := pn ((e4.trans E3).trans f4)
      cases this with | cons a t => cases t with | cons b t => cases t with | cons c _ => exact .cons b (.cons c .nil)⟩
    obtain ⟨so4, sf4⟩ := names_ok (K := K) c4
    refine ⟨l4, _, rfl, SqL.of (by rw [sf4]; exact b4), so4, fun l5 hl5 => ?_⟩
    generalize hG5 : upd G4 l5 _ = G5
    have f5 : Ext G4 G5 := by rw [← hG5]; exact Ext.upd hl5
    have t5 : NamesAt G5 l5 (sortN [p1, p2]) := ⟨_, by rw [← hG5]; exact upd_same, prd_mono (fun _ _ z => NameAt.imm (Imm.of f5) z) (srt_prd c4)⟩
    have E5 : Ext H' G5 := (E3.trans f4).trans f5
    refine ⟨_, rfl, 3, rfl, a, _, rfl, SqL.of (E5 _ _ (e4 _ _ haw')), fun l6 hl6 => ⟨_, rfl, by show 1 ≤ sizeLine; decide, fun l7 hl7 => ?_⟩⟩
    generalize hG6 : upd G5 l6 _ = G6 at hl7
    have f6 : Ext G5 G6 := by rw [← hG6]; exact Ext.upd hl6
    have d6 : G6 l6 = some (.lst [.ref q0, w1, w2]) := by rw [← hG6]; exact upd_same
    generalize hG7 : upd G6 l7 _ = G7
    have f7 : Ext G6 G7 := by rw [← hG7]; exact Ext.upd hl7
    have d7 : G7 l7 = some (.lst [.ref fa]) := by rw [← hG7]; exact upd_same
    refine ⟨l6, l7, _, _, rfl, rfl, f7 _ _ d6, d7, by show 3 + 1 ≤ sizeLine; decide, fun l8 hl8 => ?_⟩
    generalize hG8 : upd G7 l8 _ = G8
    have f8 : Ext G7 G8 := by rw [← hG8]; exact Ext.upd hl8
    have E8 : Ext H' G8 := ((E5.trans f6).trans f7).trans f8
    obtain ⟨ws8, b8, c8⟩ : NamesAt G8 l8 [p0, p1, p2, (ft, p0.2)] := ⟨[.ref q0, w1, w2, .ref fa], by rw [← hG8]; exact upd_same, by
      have := pn (e4.trans E8)
      cases this with | cons a t => cases t with | cons b t => cases t with | cons c _ => exact .cons a (.cons b (.cons c (.cons (fn E8) .nil)))⟩
    obtain ⟨so8, sf8⟩ := names_ok (K := K) c8
    refine ⟨l8, _, rfl, SqL.of (by rw [sf8]; exact b8), so8, fun l9 hl9 => ?_⟩
    generalize hG9 : upd G8 l9 _ = G9
    have f9 : Ext G8 G9 := by rw [← hG9]; exact Ext.upd hl9
    have t9 : NamesAt G9 l9 (sortN [p0, p1, p2, (ft, p0.2)]) := ⟨_, by rw [← hG9]; exact upd_same, prd_mono (fun _ _ z => NameAt.imm (Imm.of f9) z) (srt_prd c8)⟩
    have E9 : Ext H' G9 := E8.trans f9
    refine ⟨_, rfl, by show 1 ≤ sizeLine; decide, fun l10 hl10 => ?_⟩
    generalize hGa : upd G9 l10 _ = Ga
    have fa' : Ext G9 Ga := by rw [← hGa]; exact Ext.upd hl10
    have t10 : NamesAt Ga l10 [(ft, p0.2)] := ⟨[.ref fa], by rw [← hGa]; exact upd_same, .cons (fn (E9.trans fa')) .nil⟩
    have E10 : Ext H' Ga := E9.trans fa'
    refine ⟨by show 5 ≤ sizeLine; decide, fun pl hpl => ?_⟩
    refine next_ok ?_
    dsimp only
    generalize hGb : upd Ga pl _ = Gb
    have fb : Ext Ga Gb := by rw [← hGb]; exact Ext.upd hpl
    have tpl : Gb pl = some (.lst [.ref l1, .ref l3, .ref l5, .ref l9, .ref l10]) := by rw [← hGb]; exact upd_same
    have E11 : Ext H' Gb := E10.trans fb
    have hPL : Paired (fun (v : V) (l : List (Str × Str)) => ∃ x : Addr, v = .ref x ∧ NamesAt Gb x l) [.ref l1, .ref l3, .ref l5, .ref l9, .ref l10] [[p0], sortN [p0, p1], sortN [p1, p2], sortN [p0, p1, p2, (ft, p0.2)], [(ft, p0.2)]] :=
      .cons ⟨l1, rfl, t1.ext (((((((((e2.trans e3).trans f4).trans f5).trans f6).trans f7).trans f8).trans f9).trans fa').trans fb)⟩ (.cons ⟨l3, rfl, t3.ext (((((((f4.trans f5).trans f6).trans f7).trans f8).trans f9).trans fa').trans fb)⟩ (.cons ⟨l5, rfl, t5.ext (((((f6.trans f7).trans f8).trans f9).trans fa').trans fb)⟩ (.cons ⟨l9, rfl, t9.ext (fa'.trans fb)⟩ (.cons ⟨l10, rfl, t10.ext fb⟩ .nil))))
    clear hG1 hG2 hG3 hG4 hG5 hG6 hG7 hG8 hG9 hGa hGb
    refine ⟨_, rfl, fun x1 dx1 hx1 hdx1 hne1 => sp_len (n := st) hx1 hdx1 hne1 rfl s0 (by omega) fun L1 g1 u1 => ?_⟩
    refine ⟨_, rfl, _, _, rfl, rfl, fun x2 dx2 hx2 hdx2 hne2 => sp_len (n := st + 1) hx2 hdx2 hne2 rfl (by omega) (by omega) fun L2 g2 u2 => ?_⟩
    refine ⟨_, rfl, _, _, rfl, rfl, fun x3 dx3 hx3 hdx3 hne3 => sp_len (n := 359999 - st) hx3 hdx3 hne3 rfl (by omega) (by omega) fun L3 g3 u3 => ?_⟩
    refine ⟨by show 3 ≤ sizeLine; decide, fun ll hll => ?_⟩
    refine next_ok ?_
    dsimp only
    generalize hL4 : upd L3 ll _ = L4
    have g4 : Ext L3 L4 := by rw [← hL4]; exact Ext.upd hll
    have tll : ListAt K L4 ll [.len st, .len (st + 1), .len (359999 - st)] := ⟨[.ref x1, .ref x2, .ref x3], by rw [← hL4]; exact upd_same, .cons (u1.imm (Imm.of ((g2.trans g3).trans g4))) (.cons (u2.imm (Imm.of (g3.trans g4))) (.cons (u3.imm (Imm.of g4)) .nil))⟩
    clear hL4
    have EL : Ext H3 L4 := e4.trans (E11.trans (((g1.trans g2).trans g3).trans g4))
    have kL : KpH h H L4 := kH.trans (Kp.of EL)
    have hhL : HandAt L4 h (n + 200 + 1 + 1) := hh3.ext EL
    refine ⟨_, rfl, h, _, rfl, hhL, by omega, fun ca M1 cths m1 hm1 hca lca cok clen => ?_⟩
    have haM : M1 a = some (.lst [.ref q0, w1, w2, w3, w4]) := m1 _ _ hah (EL _ _ haw')
    refine ⟨_, rfl, 2, rfl, a, _, rfl, SqL.of haM, fun n1' hn1 => ⟨_, rfl, by show 1 ≤ sizeLine; decide, fun n2' hn2 => ?_⟩⟩
    generalize hM2 : upd M1 n1' _ = M2 at hn2
    have r2 : Ext M1 M2 := by rw [← hM2]; exact Ext.upd hn1
    have y2 : M2 n1' = some (.lst [w2, w3, w4]) := by rw [← hM2]; exact upd_same
    generalize hM3 : upd M2 n2' _ = M3
    have r3 : Ext M2 M3 := by rw [← hM3]; exact Ext.upd hn2
    have y3 : M3 n2' = some (.lst [.ref fa]) := by rw [← hM3]; exact upd_same
    refine ⟨n1', n2', _, _, rfl, rfl, r3 _ _ y2, y3, by show 3 + 1 ≤ sizeLine; decide, fun nl hnl => ?_⟩
    generalize hM4 : upd M3 nl _ = M4
    have r4 : Ext M3 M4 := by rw [← hM4]; exact Ext.upd hnl
    have R4 : Ext M1 M4 := (r2.trans r3).trans r4
    have hm4 : HandAt M4 h (n + 200 + 1 + 1 + 20) := hm1.ext R4
    have imL : Imm L4 M4 := (KpH.imm m1 hhL).trans (Imm.of R4)
    have tnl : ListAt K M4 nl [.name p2.1 p2.2, .name p3.1 p3.2, .name p4.1 p4.2, .name ft p0.2] := ⟨[w2, w3, w4, .ref fa], by rw [← hM4]; exact upd_same, by
      have a1 := prd_mono (fun _ _ z => NameAt.imm ((Imm.of EL).trans imL) z) hp'
      have a2 : NameAt M4 (.ref fa) (ft, p0.2) := (fn (E11.trans (((g1.trans g2).trans g3).trans g4))).imm imL
      cases a1 with | cons _ t => cases t with | cons _ t => cases t with | cons c t => cases t with | cons d t => cases t with | cons e _ => exact .cons c (.cons d (.cons e (.cons a2 .nil)))⟩
    clear hM2 hM3 hM4
    have eGb : Ext Gb L4 := ((g1.trans g2).trans g3).trans g4
    have hhGb : HandAt L4 h (n + 200 + 1 + 1) := hhL
    have plh : pl ≠ h := hand_lst hhL (eGb _ _ tpl) (fun i z => nomatch z)
    have tplM : M4 pl = some (.lst [.ref l1, .ref l3, .ref l5, .ref l9, .ref l10]) := R4 _ _ (m1 _ _ plh (eGb _ _ tpl))
    have hPL4 : Paired (fun (v : V) (l : List (Str × Str)) => 1 ≤ l.length → ∃ x : Addr, v = .ref x ∧ NamesAt M4 x l) [.ref l1, .ref l3, .ref l5, .ref l9, .ref l10] [[p0], sortN [p0, p1], sortN [p1, p2], sortN [p0, p1, p2, (ft, p0.2)], [(ft, p0.2)]] := prd_mono (fun v l ⟨x, e, q⟩ hl1 => ⟨x, e, (NamesAt.kp m1 hhL (NamesAt.ne hhL (q.ext eGb) hl1) (q.ext eGb)).ext R4⟩) hPL
    refine ⟨_, rfl, pl, rfl, ⟨_, SqL.of tplM⟩, fun D hD => ?_⟩
    have plen : ∀ l ∈ [[p0], sortN [p0, p1], sortN [p1, p2], sortN [p0, p1, p2, (ft, p0.2)], [(ft, p0.2)]], 1 ≤ l.length := fun l hl => by
      simp only [List.mem_cons, List.not_mem_nil, or_false] at hl
      rcases hl with e | e | e | e | e <;> subst e <;> simp [sortN, List.length_mergeSort]
    refine lc_map (src_list (xs := [.ref l1, .ref l3, .ref l5, .ref l9, .ref l10])) (fun _ => False) (fun m z H' => ∃ l, [[p0], sortN [p0, p1], sortN [p1, p2], sortN [p0, p1, p2, (ft, p0.2)], [(ft, p0.2)]][m]? = some l ∧ ThAt K H' z (.players l)) (fun _ _ => True) hD (fun z => z) (by show 5 ≤ sizeLine; decide) (fun m z H H' im ⟨l, h1, h2⟩ => ⟨l, h1, h2.imm im⟩) (fun _ _ _ h => h) True.intro (fun m H' _ k _ => SqL.of (Kp.ext k _ _ tplM)) (fun _ _ _ _ k => Imm.of (Kp.ext k)) (fun m z H8 H9 hm kp _ hy Q' qq => ?_) fun M5 zs kp hD5 hl5 hr5 _ => ?_
    · obtain ⟨rfl, hz⟩ := hy
      obtain ⟨l, hl', hx⟩ := prd_get hPL4 hz
      obtain ⟨x, rfl, hn'⟩ := hx (plen l (List.mem_of_getElem? hl'))
      obtain ⟨us, hu1, hu2⟩ := hn'.ext (Kp.ext kp)
      exact ⟨rfl, _, rfl, x, us, rfl, .inl ⟨SqL.of hu1, fun t ht => qq _ _ (Kp.of (Ext.upd ht)) ⟨l, hl', t, us, rfl, upd_same, prd_mono (fun _ _ z => NameAt.imm (Imm.of (Ext.upd ht)) z) hu2⟩ True.intro⟩⟩
    have r5 : Ext M4 M5 := Kp.ext kp
    have tD : ListAt K M5 D [.players [p0], .players (sortN [p0, p1]), .players (sortN [p1, p2]), .players (sortN [p0, p1, p2, (ft, p0.2)]), .players [(ft, p0.2)]] := ⟨zs, hD5, prd_ix (by rw [hl5]; rfl) fun m z t h1 h2 => by
      obtain ⟨l, h3, h4⟩ := hr5 m z h1
      have : ([[p0], sortN [p0, p1], sortN [p1, p2], sortN [p0, p1, p2, (ft, p0.2)], [(ft, p0.2)]].map Th.players)[m]? = some t := h2
      rw [List.getElem?_map, h3] at this
      cases this
      exact h4⟩
    have hm5 : HandAt M5 h (n + 200 + 1 + 1 + 20) := hm4.ext r5
    refine ⟨_, rfl, h, _, rfl, hm5, by omega, fun da M6 dths m6 hm6 hda lda dok dlen => ?_⟩
    refine ⟨_, rfl, by show 5 ≤ sizeLine; decide, fun ra hra => ?_⟩
    have hDh : D ≠ h := ListAt.ne hm5 tD (by simp)
    have hnh : nl ≠ h := ListAt.ne hm4 tnl (by simp)
    have hllh : ll ≠ h := ListAt.ne hhL tll (by simp)
    have hch : ca ≠ h := fun e => hand_ne hhL hca e.symm
    have hdh : da ≠ h := fun e => hand_ne hm5 hda e.symm
    have k6 : KpH h M6 (upd M6 ra (.lst [.ref ca, .ref nl, .ref D, .ref da, .ref ll])) := Kp.of (Ext.upd hra)
    have k5 : KpH h M5 (upd M6 ra (.lst [.ref ca, .ref nl, .ref D, .ref da, .ref ll])) := m6.trans k6
    have k4 : KpH h M4 (upd M6 ra (.lst [.ref ca, .ref nl, .ref D, .ref da, .ref ll])) := (Kp.of r5).trans k5
    have k1' : KpH h M1 (upd M6 ra (.lst [.ref ca, .ref nl, .ref D, .ref da, .ref ll])) := (Kp.of R4).trans k4
    have k0 : KpH h L4 (upd M6 ra (.lst [.ref ca, .ref nl, .ref D, .ref da, .ref ll])) := m1.trans k1'
    have kH6 : KpH h H M6 := (kL.trans m1).trans ((Kp.of R4).trans ((Kp.of r5).trans m6))
    refine hq ra _ [cths, [.name p2.1 p2.2, .name p3.1 p3.2, .name p4.1 p4.2, .name ft p0.2], [.players [p0], .players (sortN [p0, p1]), .players (sortN [p1, p2]), .players (sortN [p0, p1, p2, (ft, p0.2)]), .players [(ft, p0.2)]], dths, [.len st, .len (st + 1), .len (359999 - st)]] (kH6.new hra) ((hm6.mono (by omega)).upd (hand_ne hm6 hra)) (kH6.free hra fun e => hand_ne hm6 hra e.symm)
      ⟨[ca, nl, D, da, ll], upd_same, .cons (ListAt.kp k1' hm1 hch lca) (.cons (ListAt.kp k4 hm4 hnh tnl) (.cons (ListAt.kp k5 hm5 hDh tD) (.cons (ListAt.kp k6 hm6 hdh lda) (.cons (ListAt.kp k0 hhL hllh tll) .nil))))⟩ ⟨rfl, fun i ths hi => ?_⟩
    have ok0 := hok p0 (by simp)
    have ok1 := hok p1 (by simp)
    have ok2 := hok p2 (by simp)
    have ok3 := hok p3 (by simp)
    have ok4 := hok p4 (by simp)
    simp only [List.map_cons, List.map_nil, List.nodup_cons, List.mem_cons, List.not_mem_nil, or_false, not_or] at hnd
    have d01 : p0 ≠ p1 := fun e => hnd.1.1 (by rw [e])
    have d02 : p0 ≠ p2 := fun e => hnd.1.2.1 (by rw [e])
    have d12 : p1 ≠ p2 := fun e => hnd.2.1.1 (by rw [e])
    have df0 : p0 ≠ (ft, p0.2) := fun e => fto.1 (by have := congrArg Prod.fst e; exact this.symm)
    have df1 : p1 ≠ (ft, p0.2) := fun e => hnd.1.1 (by rw [e])
    have df2 : p2 ≠ (ft, p0.2) := fun e => hnd.1.2.1 (by rw [e])
    rcases i with _ | _ | _ | _ | _ | i
    · cases hi
      exact ⟨cok, by rw [clen]; decide, by rw [clen]; decide⟩
    · cases hi
      refine ⟨fun th hth => ?_, by simp, by simp⟩
      simp only [List.mem_cons, List.not_mem_nil, or_false] at hth
      rcases hth with e | e | e | e <;> subst e
      · exact ok2
      · exact ok3
      · exact ok4
      · exact okf
    · cases hi
      refine ⟨fun th hth => ?_, by simp, by simp⟩
      simp only [List.mem_cons, List.not_mem_nil, or_false] at hth
      rcases hth with e | e | e | e | e <;> subst e
      · exact players_one ok0
      · refine players_of (by simp) (by simp) (fun p hp => ?_) (by simp [d01])
        simp only [List.mem_cons, List.not_mem_nil, or_false] at hp
        rcases hp with e | e <;> subst e <;> assumption
      · refine players_of (by simp) (by simp) (fun p hp => ?_) (by simp [d12])
        simp only [List.mem_cons, List.not_mem_nil, or_false] at hp
        rcases hp with e | e <;> subst e <;> assumption
      · refine players_of (by simp) (by simp) (fun p hp => ?_) (by simp only [List.nodup_cons, List.mem_cons, List.not_mem_nil, or_false, not_or]; exact ⟨⟨d01, d02, df0⟩, ⟨d12, df1⟩, df2, fun z => z, List.nodup_nil⟩)
        simp only [List.mem_cons, List.not_mem_nil, or_false] at hp
        rcases hp with e | e | e | e <;> subst e <;> assumption
      · exact players_one okf
    · cases hi
      exact ⟨dok, by rw [dlen]; decide, by rw [dlen]; decide⟩
    · cases hi
      refine ⟨fun th hth => ?_, by simp, by simp⟩
      simp only [List.mem_cons, List.not_mem_nil, or_false] at hth
      rcases hth with e | e | e <;> subst e
      · exact ⟨s0, by omega⟩
      · exact ⟨by omega, by omega⟩
      · exact ⟨by omega, by omega⟩
    · simp at hi
end
end TW
set_option Elab.async false
set_option linter.all false
set_option maxRecDepth 100000
set_option maxHeartbeats 4000000
namespace TW
open PySem PySem.Spec PyProof.Rows L2
section
variable {P : Program} {w : World} {K : PySem.W.Frag} {mg : Str → Option Value} {base : Heap}

def KsAt (H : Hp) (a : Addr) (ks : List LKey) : Prop := ∃ ws, H a = some (.lst ws) ∧ Paired (KeyAt H) ws ks
theorem KsAt.ext {H H' : Hp} {a : Addr} {ks : List LKey} (e : Ext H H') (q : KsAt H a ks) : KsAt H' a ks := let ⟨ws, h1, h2⟩ := q; ⟨ws, e _ _ h1, prd_mono (fun _ _ z => KeyAt.imm (Imm.of e) z) h2⟩
theorem KsAt.ne {H : Hp} {h a : Addr} {n : Nat} {ks : List LKey} (hh : HandAt H h n) (q : KsAt H a ks) (h1 : 1 ≤ ks.length) : a ≠ h := by
  obtain ⟨ws, e, p⟩ := q
  cases p with
  | nil => simp at h1
  | cons q t => exact hand_lst hh e (fun i z => by obtain ⟨b, e, _⟩ := q; rw [e] at z; cases z)
theorem KsAt.kp {H H' : Hp} {h a : Addr} {n : Nat} {ks : List LKey} (k : KpH h H H') (hh : HandAt H h n) (ne : a ≠ h) (q : KsAt H a ks) : KsAt H' a ks := let ⟨ws, h1, h2⟩ := q; ⟨ws, k _ _ ne h1, prd_mono (fun _ _ z => KeyAt.imm (KpH.imm k hh) z) h2⟩
theorem prd_pick {α β : Type} {R : α → β → Prop} {C : β → Prop} : ∀ {zs : List α}, (∀ z ∈ zs, ∃ k, C k ∧ R z k) → ∃ ks, Paired R zs ks ∧ ∀ k ∈ ks, C k
  | [], _ => ⟨[], .nil, fun _ h => nomatch h⟩
  | z :: zs, h => by
    obtain ⟨k, h1, h2⟩ := h z List.mem_cons_self
    obtain ⟨ks, h3, h4⟩ := prd_pick fun y hy => h y (List.mem_cons_of_mem _ hy)
    exact ⟨k :: ks, .cons h2 h3, fun x hx => by rcases List.mem_cons.mp hx with rfl | hx; exact h1; exact h4 x hx⟩
def sp_law_keys (K : PySem.W.Frag) : Sp := fun vs H Q _ => ∃ (h : Addr) (n : Nat), vs = [.ref h] ∧ HandAt H h n ∧ n ≤ 700000 ∧ ∀ (a : Addr) H' ks, KpH h H H' → HandAt H' h (n + 100) → H a = none → KsAt H' a ks → (∀ k ∈ ks, KeyOk k) → 1 ≤ ks.length → ks.length ≤ 4 → Q (.ref a) H'
theorem ok_law_keys (T : Txt K mg) : C8.Cal P w K mg base 4 "_law_keys" (sp_law_keys K) [] := by
  obtain ⟨fd, F⟩ := T.d_law_keys
  refine cal_of F T.g_law_keys (fun _ _ _ _ _ _ us hl => match us, hl with | [_], _ => rfl) sc_law_keys (fun vs H Q E h => ?_) fun cdv A outer s H vs Q E hr h => ?_
  · obtain ⟨h, n, rfl, hh, hn, hq⟩ := h
    rfl
  · have hu := hu_of hr
    have hu64 := hr.units
    obtain ⟨h, n, rfl, hh, hn, hq⟩ := h
    refine ⟨_, (pss_cons (ps_asg (pe_tup (pa_cons (pe_lst (pa_cons (C8.pe_c (ok_law_word T) hr (by decide) rfl (pa_cons (pv 0) pa_nil)) (pa_cons (C8.pe_c (ok_law_word T) hr (by decide) rfl (pa_cons (pv 0) pa_nil)) pa_nil))) (pa_cons (C8.pe_c (ok_law_pick T) hr (by decide) rfl (pa_cons (pv 0) (pa_cons (pe_lst (pa_cons pe_int (pa_cons pe_int (pa_cons (pe_op op_add (pe_op op_pow pe_int pe_int) (C8.pe_c (ok_law_take T) hr (by decide) rfl (pa_cons (pv 0) (pa_cons (pe_op op_pow pe_int pe_int) pa_nil)))) pa_nil)))) pa_nil))) pa_nil))) (pg_tup (by rfl) (pgs_cons (pg_name (i := 1) sc_law_keys.nd rfl (by first | exact Or.inl rfl | exact Or.inr rfl)) (pgs_cons (pg_name (i := 2) sc_law_keys.nd rfl (by first | exact Or.inl rfl | exact Or.inr rfl)) pgs_nil))))
    (pss_one (ps_ret (pe_lc (own := [("_law_k", 3)]) (by rfl) sc_law_keys.nd (pi_range1 (by rfl) T.f_range (pa_cons (pe_op op_add pe_int (C8.pe_c (ok_law_take T) hr (by decide) rfl (pa_cons (pv 0) (pa_cons pe_int pa_nil)))) pa_nil)) (blkOk_by (N := N_law_keys) (sc := defScope s_law_keys) (by decide +kernel)) (fun _ _ _ _ _ => (pg_name (i := 3) sc_law_keys.nd rfl (by first | exact Or.inl rfl | exact Or.inr rfl))) (fun _ _ _ _ _ => by exact pts_nil) (fun _ _ _ _ _ => by exact (pe_tup (pa_cons (C8.pe_c (ok_law_pick T) hr (by decide) rfl (pa_cons (pv 0) (pa_cons (pv 1) pa_nil))) (pa_cons (pe_op op_add (pv 2) (C8.pe_c (ok_law_take T) hr (by decide) rfl (pa_cons (pv 0) (pa_cons pe_int pa_nil)))) pa_nil)))))))), ?_⟩
    refine ⟨_, rfl, h, n, rfl, hh, by omega, fun z1 H1 k1 hh1 zo1 => ⟨_, rfl, h, _, rfl, hh1, by omega, fun z2 H2 k2 hh2 zo2 => ⟨by show 2 ≤ sizeLine; decide, fun hs hhs => ?_⟩⟩⟩
    have hsh : hs ≠ h := fun e => hand_ne hh2 hhs e.symm
    generalize hG : upd H2 hs _ = G
    have e2 : Ext H2 G := by rw [← hG]; exact Ext.upd hhs
    have ths : G hs = some (.lst [.str z1, .str z2]) := by rw [← hG]; exact upd_same
    have hhG := hh2.ext e2
    refine ⟨_, rfl, _, _, rfl, rfl, ⟨by decide, by decide, by decide⟩, _, rfl, _, _, rfl, rfl, ⟨by decide, by decide, by decide⟩, h, _, _, rfl, hhG, by omega, (by decide), (by decide), fun r H3 k3 hh3 r0 r1 => ⟨_, _, rfl, rfl, by show 3 ≤ sizeLine; decide, fun b hb => ?_⟩⟩
    refine ⟨h, _, .ref b, rfl, hh3.upd (hand_ne hh3 hb), by omega, .inl ⟨b, _, rfl, fun e => hand_ne hh3 hb e.symm, upd_same, (show 1 ≤ 3 by decide), (show 3 ≤ 1000 by decide), fun i v H4 k4' hh4' hv => ?_⟩⟩
    refine ⟨by show 2 ≤ sizeLine; decide, fun tp htp => ⟨tp, _, rfl, SqT.of upd_same, rfl, _, _, rfl, _, _, rfl, rfl, ?_⟩⟩
    refine next_ok ?_
    dsimp only
    obtain ⟨H4', rfl⟩ : ∃ H4', H4' = H4 := ⟨_, rfl⟩
    have hh4 := hh4'.ext (Ext.upd (o := .tup [.ref hs, v]) htp)
    have k4 := k4'.trans (Kp.of (Ext.upd (o := .tup [.ref hs, v]) htp))
    generalize upd H4' tp (.tup [.ref hs, v]) = H4 at hh4 k4
    obtain ⟨nm, rfl, m0, m1⟩ : ∃ nm : Int, v = .int nm ∧ 0 ≤ nm ∧ nm ≤ 10 ^ 30 := by
      have := List.mem_of_getElem? hv
      simp only [List.mem_cons, List.not_mem_nil, or_false] at this
      have r1' : r < 10 ^ 9 := r1
      rcases this with e | e | e
      · exact ⟨_, e, by decide, by decide⟩
      · exact ⟨_, e, by decide, by decide⟩
      · refine ⟨_, e, ?_, ?_⟩
        · show (0 : Int) ≤ 10 ^ 29 + r
          omega
        · show (10 : Int) ^ 29 + r ≤ 10 ^ 30
          omega
    have kG4 : KpH h G H4 := (k3.new hb).trans k4
    have kH4 : KpH h H H4 := ((k1.trans k2).trans (Kp.of e2)).trans kG4
    have ths4 := kG4 _ _ hsh ths
    refine ⟨_, rfl, h, _, 4, rfl, hh4, by omega, by decide, by decide, fun r5 H5 k5 hh5 r50 r51 => ⟨_, _, rfl, rfl, 1 + r5, rfl, by omega, by omega, fun D hD => ?_⟩⟩
    have hDh : D ≠ h := fun e => hand_ne hh5 hD e.symm
    have ths5 := k5 _ _ hsh ths4
    refine lc_map src_range (· = h) (fun m z H' => ∃ k, KeyOk k ∧ KeyAt H' z k) (fun i H' => HandAt H' h (n + 30 + 2 * i)) hD hDh (Nat.le_trans (show (1 + r5).toNat ≤ 4 by omega) (by decide)) (fun m z H H' im ⟨k, h1, h2⟩ => ⟨k, h1, h2.imm im⟩) (fun i H' o a => a.upd hDh.symm) (hh5.mono (by omega)) (fun _ _ _ _ _ => True.intro) (fun i H1 H2 a k => KpH.imm k a) (fun m z H8 H9 hm kp hh8 hy Q' qq => ?_) fun H8 zs kp hD8 hl8 hr8 hh8 => ?_
    · obtain ⟨rfl, rfl⟩ := hy
      refine ⟨rfl, _, rfl, _, rfl, h, _, .ref hs, rfl, hh8, by omega, .inl ⟨hs, _, rfl, hsh, kp _ _ hsh ths5, (show 1 ≤ 2 by decide), (show 2 ≤ 1000 by decide), fun j v H6 k6 hh6 hv => ?_⟩⟩
      obtain ⟨z, rfl, zo⟩ : ∃ z, v = .str z ∧ WordOk z := by
        have := List.mem_of_getElem? hv
        simp only [List.mem_cons, List.not_mem_nil, or_false] at this
        rcases this with e | e
        · exact ⟨z1, e, zo1⟩
        · exact ⟨z2, e, zo2⟩
      refine ⟨_, rfl, _, rfl, h, _, 3, rfl, hh6, by omega, by decide, by decide, fun r7 H7 k7 hh7 r70 r71 => ⟨_, _, rfl, rfl, by show 2 ≤ sizeLine; decide, fun q hq' => ?_⟩⟩
      refine qq _ _ ((k6.trans k7).new hq') ⟨(z, nm + r7), ⟨zo, by show 0 ≤ nm + r7; omega, by show nm + r7 < 10 ^ 31; omega⟩, q, rfl, upd_same⟩ ((hh7.mono (by omega)).upd (hand_ne hh7 hq'))
    · obtain ⟨ks, p1, p2⟩ := prd_pick (zs := zs) (R := KeyAt H8) (C := KeyOk) fun z hz => by
        obtain ⟨i, hi⟩ := List.mem_iff_getElem?.mp hz
        exact hr8 i z hi
      have kl : ks.length = (1 + r5).toNat := by rw [← prd_len p1, hl8]
      exact hq D H8 ks ((kH4.trans k5).trans kp) (hh8.mono (by omega)) ((kH4.trans k5).free hD hDh) ⟨zs, hD8, p1⟩ p2 (by omega) (by omega)
def sp_law_entry (K : PySem.W.Frag) : Sp := fun vs H Q _ => ∃ (h : Addr) (n : Nat) (ka pa : Addr) (ks : List LKey) (P : List (List Th)), vs = [.ref h, .ref ka, .ref pa] ∧ HandAt H h n ∧ n ≤ 900000 ∧ KsAt H ka ks ∧ (∀ k ∈ ks, KeyOk k) ∧ 1 ≤ ks.length ∧ ks.length ≤ 1000 ∧ PoolsAt K H pa P ∧ PoolsOk P ∧ ∀ v e H', KpH h H H' → HandAt H' h (n + 20) → EntAt K H' v e → EntOk e → Q v H'
theorem ok_law_entry (T : Txt K mg) : C8.Cal P w K mg base 3 "_law_entry" (sp_law_entry K) [] := by
  obtain ⟨fd, F⟩ := T.d_law_entry
  refine cal_of F T.g_law_entry (fun _ _ _ _ _ _ us hl => match us, hl with | [_, _, _], _ => rfl) sc_law_entry (fun vs H Q E h => ?_) fun cdv A outer s H vs Q E hr h => ?_
  · obtain ⟨h, n, ka, pa, ks, P, rfl, hh, hn, hks, kok, kl1, kl2, hP, pok, hq⟩ := h
    rfl
  · have hu := hu_of hr
    have hu64 := hr.units
    obtain ⟨h, n, ka, pa, ks, P, rfl, hh, hn, hks, kok, kl1, kl2, hP, pok, hq⟩ := h
    refine ⟨_, (pss_cons (ps_par (i := 4) (j := 5) (by rfl) sc_law_entry.nd rfl rfl (by decide) rfl rfl (pa_cons (C8.pe_c (ok_law_pick T) hr (by decide) rfl (pa_cons (pv 0) (pa_cons (pv 1) pa_nil))) (pa_cons (pe_lst pa_nil) pa_nil)) (by rfl))
    (pss_cons (ps_for PassesOwn.never rfl (pi_list (pv 2)) (pg_name (i := 3) sc_law_entry.nd rfl (by first | exact Or.inl rfl | exact Or.inr rfl))
    (pss_cons (ps_set (i := 6) sc_law_entry.nd rfl (by first | exact Or.inl rfl | exact Or.inr rfl) (C8.pe_c (ok_law_pick T) hr (by decide) rfl (pa_cons (pv 0) (pa_cons (pv 3) pa_nil))))
    (pss_one (ps_expr (pe_bm PySem.F.plainAttrs_list PySem.F.slot_list_append PySem.F.type_list_append mt_append (pv 5) (pa_cons (pe_ix ix_list (pe_lst (pa_cons (pv 6) (pa_cons (pv 6) (pa_cons pe_non pa_nil)))) (C8.pe_c (ok_law_take T) hr (by decide) rfl (pa_cons (pv 0) (pa_cons pe_int pa_nil))) (fun _ _ => rfl)) pa_nil))))))
    (pss_one (ps_ret (pe_op op_catA (pv 4) (pe_callTy call_tuple_of (by rfl) T.f_tuple (by decide +kernel) (pa_cons (pv 5) pa_nil))))))), ?_⟩
    have hkh := KsAt.ne hh hks kl1
    obtain ⟨kws, hkw, hkp⟩ := hks
    have kwl := prd_len hkp
    refine ⟨_, rfl, _, rfl, h, n, .ref ka, rfl, hh, by omega, .inl ⟨ka, kws, rfl, hkh, hkw, by omega, by omega, fun i v H1 k1 hh1 hv => ⟨by show 0 ≤ sizeLine; decide, fun fd hfd => ⟨_, _, rfl, ?_⟩⟩⟩⟩
    refine next_ok ?_
    dsimp only
    obtain ⟨key, hkey, q0, rfl, hq0⟩ := prd_get hkp hv
    have hko := kok key (List.mem_of_getElem? hkey)
    have hq1 : H1 q0 = some (.tup (kvals key)) := (KpH.imm k1 hh) _ _ hq0 rfl
    have hfh : fd ≠ h := fun e => hand_ne hh1 hfd e.symm
    have hfd0 : H fd = none := k1.free hfd hfh
    have hP1 := (PoolsAt.kp pok k1 hh hP).2
    generalize hG : upd H1 fd _ = G
    have e1 : Ext H1 G := by rw [← hG]; exact Ext.upd hfd
    have hGf : G fd = some (.lst []) := by rw [← hG]; exact upd_same
    have hPG : PoolsAt K G pa P := by
      obtain ⟨ls, a1, a2⟩ := hP1
      exact ⟨ls, e1 _ _ a1, prd_mono (fun _ _ z => z.ext e1) a2⟩
    have hhG := hh1.ext e1
    have hqG := e1 _ _ hq1
    have kHG : KpH h H G := k1.trans (Kp.of e1)
    clear hG
    have hpah := (PoolsAt.kp pok (Kp.rfl' : KpH h G G) hhG hPG).1
    obtain ⟨ls, hls, hlp⟩ := id hPG
    refine ⟨_, rfl, pa, rfl, ⟨_, SqL.of hls⟩, ?_⟩
    have lsl : ls.length = 5 := by rw [prd_len hlp, pok.len]
    refine for_src (src_list (xs := ls.map V.ref)) (fun i σ H' => ∃ (vs : List V) (os : List (Option Th)) (s3 s6 : Option V), σ = [some (.ref h), some (.ref ka), some (.ref pa), s3, some (.ref q0), some (.ref fd), s6] ∧ KpH h H H' ∧ Kp (fun b => b = h ∨ b = fd) G H' ∧ HandAt H' h (n + 1 + 2 * i) ∧ H' q0 = some (.tup (kvals key)) ∧ PoolsAt K H' pa P ∧ H' fd = some (.lst vs) ∧ Paired (OThAt K H') vs os ∧ os.length = i ∧ ∀ (j : Nat) (th : Th), os[j]? = some (some th) → th.ok j)
      ⟨[], [], _, _, rfl, kHG, Kp.rfl', hhG, hqG, hPG, hGf, .nil, rfl, fun j th h => by simp at h⟩ (fun i σ H' _ h => ?_) (fun i x σ G1 G2 hi hP' hy => ?_) fun σ H' hP' => ?_
    · obtain ⟨vs, os, s3, s6, _, _, kp, hh', _⟩ := h
      have hpf : pa ≠ fd := fun e => by
        rw [e, hGf] at hls
        injection hls with hls
        injection hls with hls
        have := congrArg List.length hls
        rw [List.length_map, lsl] at this
        cases this
      exact SqL.of (kp _ _ (fun z => z.elim hpah hpf) hls)
    · obtain ⟨rfl, hx⟩ := hy
      obtain ⟨vs, os, s3, s6, rfl, kk2, kp2, hh2, hq2, hP2, hf2, hv2, ol, ook⟩ := hP'
      rw [List.length_map, lsl] at hi
      rw [List.getElem?_map] at hx
      obtain ⟨l, hl, rfl⟩ : ∃ l, ls[i]? = some l ∧ x = .ref l := by
        cases hl : ls[i]? with
        | none => rw [hl] at hx; cases hx
        | some l => rw [hl] at hx; exact ⟨l, rfl, (Option.some.inj hx).symm⟩
      obtain ⟨ls2, hls2, hlp2⟩ := id hP2
      have hpf : pa ≠ fd := fun e => by
        rw [e, hGf] at hls
        injection hls with hls
        injection hls with hls
        have := congrArg List.length hls
        rw [List.length_map, lsl] at this
        cases this
      have els : ls2 = ls := by
        rw [kp2 _ _ (fun z => z.elim hpah hpf) hls] at hls2
        injection hls2 with z
        injection z with z
        have inj : ∀ {a b : List Addr}, a.map V.ref = b.map V.ref → a = b := fun {a b} z => by
          have := congrArg (fun l : List V => l.map fun v => match v with | .ref a => a | _ => 0) z
          simpa [List.map_map, Function.comp_def] using this
        exact (inj z).symm
      subst els
      obtain ⟨ths, hths, us, hus, hup⟩ := prd_get hlp2 hl
      obtain ⟨tok, t1, t2⟩ := pok.each i ths hths
      have hlh : l ≠ h := ListAt.ne hh2 ⟨us, hus, hup⟩ t1
      have ul := prd_len hup
      refine ⟨_, rfl, _, rfl, h, _, .ref l, rfl, hh2, by omega, .inl ⟨l, us, rfl, hlh, hus, by omega, by omega, fun m v H3 k3 hh3 hv => ?_⟩⟩
      obtain ⟨th, hth, hat⟩ := prd_get hup hv
      have thok := tok th (List.mem_of_getElem? hth)
      refine next_ok ?_
      dsimp only
      have hf3 := k3 _ _ hfh hf2
      refine ⟨_, rfl, .inl ⟨rfl, vs, SqL.of hf3⟩, _, rfl, _, rfl, by show 3 ≤ sizeLine; decide, fun b hb => ?_⟩
      have hbh : b ≠ h := fun e => hand_ne hh3 hb e.symm
      refine ⟨_, rfl, h, _, 3, rfl, hh3.upd hbh.symm, by omega, by decide, by decide, fun r H4 k4 hh4 r0 r1 => ?_⟩
      have k34 : KpH h H3 H4 := (Kp.of (Ext.upd hb)).trans k4
      have k24 : KpH h G2 H4 := k3.trans k34
      have im24 := KpH.imm k24 hh2
      have hb4 : H4 b = some (.lst [v, v, .non]) := k4 _ _ hbh upd_same
      obtain ⟨j, rfl⟩ : ∃ j : Nat, r = j := ⟨r.toNat, by omega⟩
      have fin : ∀ (y : V) (o : Option Th), OThAt K H4 y o → (∀ th, o = some th → th.ok i) → ∀ s6', (∃ (vs : List V) (os : List (Option Th)) (s3 s6 : Option V), [some (.ref h), some (.ref ka), some (.ref pa), some (.ref l), some (.ref q0), some (.ref fd), s6'] = [some (.ref h), some (.ref ka), some (.ref pa), s3, some (.ref q0), some (.ref fd), s6] ∧ KpH h H (upd H4 fd (.lst (vs.dropLast ++ vs.getLast?.toList))) ∧ True) → True := fun _ _ _ _ _ _ => True.intro
      have hf4 := k34 _ _ hfh hf3
      have hvl : vs.length < sizeLine := by rw [prd_len hv2, ol]; exact Nat.lt_of_lt_of_le hi (by decide)
      have hne4 : ∀ {b' : Addr} {o : HO}, H4 b' = some o → (∀ ws, o ≠ .lst ws) → b' ≠ fd := fun hb' ho e => by rw [e, hf4] at hb'; exact ho _ (Option.some.inj hb').symm
      have hP4 := (PoolsAt.kp pok k24 hh2 hP2).2
      have fin : ∀ (y : V) (o : Option Th), OThAt K H4 y o → (∀ th, o = some th → th.ok i) → ∃ (vs' : List V) (os' : List (Option Th)) (s3' s6' : Option V), ([some (.ref h), some (.ref ka), some (.ref pa), some (.ref l), some (.ref q0), some (.ref fd), some v] : List (Option V)) = [some (.ref h), some (.ref ka), some (.ref pa), s3', some (.ref q0), some (.ref fd), s6'] ∧ KpH h H (upd H4 fd (.lst (vs ++ [y]))) ∧ Kp (fun b => b = h ∨ b = fd) G (upd H4 fd (.lst (vs ++ [y]))) ∧ HandAt (upd H4 fd (.lst (vs ++ [y]))) h (n + 1 + 2 * (i + 1)) ∧ upd H4 fd (.lst (vs ++ [y])) q0 = some (.tup (kvals key)) ∧ PoolsAt K (upd H4 fd (.lst (vs ++ [y]))) pa P ∧ upd H4 fd (.lst (vs ++ [y])) fd = some (.lst vs') ∧ Paired (OThAt K (upd H4 fd (.lst (vs ++ [y])))) vs' os' ∧ os'.length = i + 1 ∧ ∀ (j : Nat) (th : Th), os'[j]? = some (some th) → th.ok j := fun y o ho hok => by
        have im4 : Imm H4 (upd H4 fd (.lst (vs ++ [y]))) := imm_lst hf4
        refine ⟨vs ++ [y], os ++ [o], _, _, rfl, (kk2.trans k24).mut hfd0, (kp2.trans (k24.mono fun b e => .inl e)).at_ (.inr rfl), (hh4.mono (by omega)).upd hfh.symm, ?_, ?_, upd_same, prd_app (prd_mono (fun _ _ z => z.imm (im24.trans im4)) hv2) (.cons (ho.imm im4) .nil), by rw [List.length_append, ol]; rfl, fun j' th' h' => ?_⟩
        · have h4 := im24 _ _ hq2 rfl
          rw [upd_ne (hne4 h4 fun _ z => nomatch z)]
          exact h4
        · obtain ⟨ls3, b1, b2⟩ := hP4
          have fdls : ∀ l' ∈ ls3, l' ≠ fd := fun l' hl' e => by
            obtain ⟨j', hj'⟩ := List.mem_iff_getElem?.mp hl'
            have h3 : ls3 = ls2 := by
              rw [k24 _ _ hpah hls2] at b1
              injection b1 with z
              injection z with z
              have inj : ∀ {a b : List Addr}, a.map V.ref = b.map V.ref → a = b := fun {a b} z => by
                have := congrArg (fun l : List V => l.map fun v => match v with | .ref a => a | _ => 0) z
                simpa [List.map_map, Function.comp_def] using this
              exact (inj z).symm
            subst h3
            obtain ⟨ths', c1, us', c2, c3⟩ := prd_get hlp hj'
            rw [e, hGf] at c2
            injection c2 with c2
            injection c2 with c2
            subst c2
            cases c3
            have := (pok.each j' [] c1).2.1
            simp at this
          refine ⟨ls3, by rw [upd_ne hpf]; exact b1, ?_⟩
          have key : ∀ {ls : List Addr} {P : List (List Th)}, (∀ l ∈ ls, l ≠ fd) → Paired (ListAt K H4) ls P → Paired (ListAt K (upd H4 fd (.lst (vs ++ [y])))) ls P := fun {ls P} => by
            induction P generalizing ls with
            | nil => intro _ p; cases p; exact .nil
            | cons t P ih =>
              intro o p
              cases p with
              | cons a r =>
                refine .cons ?_ (ih (fun x hx => o x (List.mem_cons_of_mem _ hx)) r)
                obtain ⟨ws, d1, d2⟩ := a
                exact ⟨ws, by rw [upd_ne (o _ List.mem_cons_self)]; exact d1, prd_mono (fun _ _ z => z.imm im4) d2⟩
          exact key fdls b2
        · by_cases hj' : j' < os.length
          · rw [List.getElem?_append_left hj'] at h'
            exact ook j' th' h'
          · rw [List.getElem?_append_right (by omega)] at h'
            have : j' - os.length = 0 := by
              rcases Nat.eq_zero_or_pos (j' - os.length) with z | z
              · exact z
              · rw [List.getElem?_eq_none (by simp; omega)] at h'; cases h'
            rw [this] at h'
            have h' : o = some th' := by simpa using h'
            rw [show j' = i by omega]
            exact hok th' h'
      have go : ∀ (y : V) (o : Option Th), ([v, v, .non] : List V)[j]? = some y → OThAt K H4 y o → (∀ th, o = some th → th.ok i) → rIxL K (.ref b) (.int (j : Int)) H4 fun z H5 => ∃ (l : Addr) (xs : List V) (y : V), V.ref fd = .ref l ∧ [z] = [y] ∧ H5 l = some (.lst xs) ∧ xs.length < sizeLine ∧ True := fun y o hy _ _ => ⟨b, _, j, y, rfl, rfl, SqL.of hb4, atI_nat hy, fd, vs, y, rfl, rfl, hf4, hvl, True.intro⟩
      have hv4 : OThAt K H4 v (some th) := hat.imm im24
      rcases j with _ | _ | _ | j
      · exact ⟨b, _, _, v, rfl, rfl, SqL.of hb4, atI_nat (j := 0) rfl, fd, vs, _, rfl, rfl, hf4, hvl, fin v (some th) hv4 fun t e => by cases e; exact thok⟩
      · exact ⟨b, _, _, v, rfl, rfl, SqL.of hb4, atI_nat (j := 1) rfl, fd, vs, _, rfl, rfl, hf4, hvl, fin v (some th) hv4 fun t e => by cases e; exact thok⟩
      · exact ⟨b, _, _, .non, rfl, rfl, SqL.of hb4, atI_nat (j := 2) rfl, fd, vs, _, rfl, rfl, hf4, hvl, fin .non none rfl fun t e => nomatch e⟩
      · omega
    · obtain ⟨vs, os, s3, s6, rfl, kk2, kp2, hh2, hq2, hP2, hf2, hv2, ol, ook⟩ := hP'
      rw [List.length_map, lsl] at ol
      refine ⟨_, rfl, _, rfl, fd, vs, rfl, .inl ⟨SqL.of hf2, fun t ht => ?_⟩⟩
      have vl := prd_len hv2
      refine ⟨q0, t, kvals key, vs, rfl, rfl, SqT.of ((Ext.upd ht) _ _ hq2), SqT.of upd_same, (by rw [vl, ol]; show 2 + 5 ≤ sizeLine; decide), (fun z => nomatch z), (fun _ z => by rw [z] at vl; rw [ol] at vl; cases vl), fun _ _ c hc => ?_⟩
      have e7 : Ext H' (upd (upd H' t (.tup vs)) c (.tup (kvals key ++ vs))) := (Ext.upd ht).trans (Ext.upd hc)
      refine hq _ ⟨key, os⟩ _ (kk2.trans (Kp.of e7)) ((hh2.mono (by rw [List.length_map, lsl]; omega)).ext e7) ⟨c, vs, rfl, upd_same, prd_mono (fun _ _ z => z.imm (Imm.of e7)) hv2⟩ ⟨hko, ol, ook⟩
end
end TW
set_option Elab.async false
set_option linter.all false
set_option maxRecDepth 100000
set_option maxHeartbeats 4000000
namespace TW
open PySem PySem.Spec PyProof.Rows L2
section
variable {P : Program} {w : World} {K : PySem.W.Frag} {mg : Str → Option Value} {base : Heap}

/-- what mark(thing) gives -/
def MkAt (H : Hp) (v : V) : Th → Prop
  | .code s => v = .str s
  | .name t x => NameAt H v (t, x)
  | .players l => ∃ a vs, v = .ref a ∧ H a = some (.tup vs) ∧ Paired (NameAt H) vs l
  | .day y m d => ∃ a, v = .ref a ∧ H a = some (.tup [.int y, .int (m.getD 0), .int (d.getD 0)])
  | .len n => v = .int n
theorem MkAt.imm {H H' : Hp} {v : V} {th : Th} (e : Imm H H') (h : MkAt H v th) : MkAt H' v th := by
  cases th with
  | code s => exact h
  | name t x => exact NameAt.imm e h
  | players l => exact let ⟨a, vs, h1, h2, h3⟩ := h; ⟨a, vs, h1, e _ _ h2 rfl, prd_mono (fun _ _ q => q.imm e) h3⟩
  | day y m d => exact let ⟨a, h1, h2⟩ := h; ⟨a, h1, e _ _ h2 rfl⟩
  | len n => exact h
theorem MkAt.dp {H : Hp} {v : V} {th : Th} (h : MkAt H v th) : Dp K H v th.mark := by
  cases th with
  | code s => rw [show v = .str s from h]; exact .str s
  | name t x => exact dp_name h
  | players l => obtain ⟨a, ws, rfl, ha, hp⟩ := h; exact .tup (SqT.of ha) (dp_names hp)
  | day y m d => obtain ⟨a, rfl, ha⟩ := h; exact .tup (SqT.of ha) (.cons (.int _) (.cons (.int _) (.cons (.int _) .nil)))
  | len n => rw [show v = .int n from h]; exact .int n
def odat : Option Th → PyData
  | none => .none
  | some th => th.mark
def OMkAt (H : Hp) (v : V) : Option Th → Prop
  | none => v = .non
  | some th => MkAt H v th
theorem OMkAt.imm {H H' : Hp} {v : V} {o : Option Th} (e : Imm H H') (h : OMkAt H v o) : OMkAt H' v o := by
  cases o with
  | none => exact h
  | some th => exact MkAt.imm e h
theorem OMkAt.dp {H : Hp} {v : V} {o : Option Th} (h : OMkAt H v o) : Dp K H v (odat o) := by
  cases o with
  | none => rw [show v = .non from h]; exact .non
  | some th => exact MkAt.dp h
/-- an entry, marked -/
def MEAt (H : Hp) (v : V) (e : Ent) : Prop := ∃ a vs, v = .ref a ∧ H a = some (.tup (kvals e.key ++ vs)) ∧ Paired (OMkAt H) vs e.th
theorem MEAt.imm {H H' : Hp} {v : V} {e : Ent} (i : Imm H H') (h : MEAt H v e) : MEAt H' v e :=
  let ⟨a, vs, h1, h2, h3⟩ := h; ⟨a, vs, h1, i _ _ h2 rfl, prd_mono (fun _ _ q => q.imm i) h3⟩
def edat (e : Ent) : PyData := .tuple (.str e.key.1 :: .int e.key.2 :: e.th.map odat)
theorem MEAt.dp {H : Hp} {v : V} {e : Ent} (h : MEAt H v e) : Dp K H v (edat e) := by
  obtain ⟨a, vs, rfl, ha, hp⟩ := h
  exact .tup (SqT.of ha) (.cons (.str _) (.cons (.int _) (dpAll_of (fun v o h => OMkAt.dp h) hp)))
def sp_law_mark (K : PySem.W.Frag) : Sp := fun vs H Q _ => ∃ v th, vs = [v] ∧ ThAt K H v th ∧ (∃ i, th.ok i) ∧ ∀ kv H', Ext H H' → MkAt H' kv th → Q kv H'
theorem ok_law_mark (T : Txt K mg) : C8.Cal P w K mg base 1 "_law_mark" (sp_law_mark K) [] := by
  obtain ⟨fd, F⟩ := T.d_law_mark
  refine cal_of F T.g_law_mark (fun _ _ _ _ _ _ us hl => match us, hl with | [_], _ => rfl) sc_law_mark (fun vs H Q E h => ?_) fun cdv A outer s H vs Q E hr h => ?_
  · obtain ⟨v, th, rfl, hth, ⟨i, ok⟩, hq⟩ := h
    rfl
  · have hu := hu_of hr
    have hu64 := hr.units
    obtain ⟨v, th, rfl, hth, ⟨i, ok⟩, hq⟩ := h
    refine ⟨_, (pss_cons (ps_if (pt_val (pe_callB call_isi (by rfl) T.f_isinstance (by decide +kernel) (pa_cons (pv 0) (pa_cons (pe_glob (v := .ref (He.ga K "Day")) rfl T.g_Day rfl) pa_nil)))) (pss_one (ps_ret (pe_tup (pa_cons (pe_fld (pv 0) rfl) (pa_cons (pe_orT (pe_fld (pv 0) rfl) (pe_one pe_int)) (pa_cons (pe_orT (pe_fld (pv 0) rfl) (pe_one pe_int)) pa_nil)))))) pss_nil)
    (pss_one (ps_ret (pe_ifExp (pt_val (pe_callB call_isi (by rfl) T.f_isinstance (by decide +kernel) (pa_cons (pv 0) (pa_cons (pe_glob (v := .ref (He.ga K "Length")) rfl T.g_Length rfl) pa_nil)))) (pe_fld (pv 0) rfl) (pv 0))))), ?_⟩
    rcases th_ok ok with ⟨s, rfl, rfl, k⟩ | ⟨t, x, rfl, rfl, k⟩ | ⟨l, rfl, rfl, k⟩ | ⟨y, m, d, rfl, rfl, k⟩ | ⟨n, rfl, rfl, k⟩
    · have : v = .str s := hth
      subst this
      refine ⟨_, rfl, ⟨_, _, _, _, _, rfl, .own _, .base (.str s), T.kit 5 rfl, false, rfl, iteF ?_⟩⟩
      refine ⟨_, rfl, ⟨_, _, _, _, _, rfl, .own _, .base (.str s), T.kit 6 rfl, false, rfl, iteF ⟨_, rfl, hq _ H Ext.rfl' ?_⟩⟩⟩
      exact rfl
    · obtain ⟨a, rfl, ha⟩ := id hth
      refine ⟨_, rfl, ⟨_, _, _, _, _, rfl, .own _, .base (.tup ha), T.kit 7 rfl, false, rfl, iteF ?_⟩⟩
      refine ⟨_, rfl, ⟨_, _, _, _, _, rfl, .own _, .base (.tup ha), T.kit 8 rfl, false, rfl, iteF ⟨_, rfl, hq _ H Ext.rfl' hth⟩⟩⟩
    · obtain ⟨a, ws, rfl, ha, hp⟩ := id hth
      refine ⟨_, rfl, ⟨_, _, _, _, _, rfl, .own _, .base (.tup ha), T.kit 7 rfl, false, rfl, iteF ?_⟩⟩
      refine ⟨_, rfl, ⟨_, _, _, _, _, rfl, .own _, .base (.tup ha), T.kit 8 rfl, false, rfl, iteF ⟨_, rfl, hq _ H Ext.rfl' ⟨a, ws, rfl, ha, hp⟩⟩⟩⟩
    · obtain ⟨a, dx, rfl, ha⟩ := hth
      refine ⟨_, rfl, ⟨_, _, _, _, _, rfl, .own _, T.ty_Day ha, T.kit 9 rfl, true, rfl, iteT ?_⟩⟩
      refine ⟨_, rfl, a, _, dx, _, _, rfl, ha, T.c_Day, T.n_Day_year, rfl, ?_⟩
      have tn : ∀ i : Int, 1 ≤ i → true = (i != 0) := fun i h => by simp; omega
      have km := fun i e => (k.mr i e).1
      have kd := fun i e => (k.dr i e).1
      refine ⟨_, rfl, a, _, dx, _, _, rfl, ha, T.c_Day, T.n_Day_month, rfl, ?_⟩
      cases m
      · refine ⟨false, rfl, iteF ⟨_, rfl, a, _, dx, _, _, rfl, ha, T.c_Day, T.n_Day_day, rfl, ?_⟩⟩
        cases d
        · exact ⟨false, rfl, iteF ⟨by show 3 ≤ sizeLine; decide, fun p hp => hq _ _ (Ext.upd hp) ⟨p, rfl, upd_same⟩⟩⟩
        · exact ⟨true, tn _ (kd _ rfl), iteT ⟨by show 3 ≤ sizeLine; decide, fun p hp => hq _ _ (Ext.upd hp) ⟨p, rfl, upd_same⟩⟩⟩
      · refine ⟨true, tn _ (km _ rfl), iteT ⟨_, rfl, a, _, dx, _, _, rfl, ha, T.c_Day, T.n_Day_day, rfl, ?_⟩⟩
        cases d
        · exact ⟨false, rfl, iteF ⟨by show 3 ≤ sizeLine; decide, fun p hp => hq _ _ (Ext.upd hp) ⟨p, rfl, upd_same⟩⟩⟩
        · exact ⟨true, tn _ (kd _ rfl), iteT ⟨by show 3 ≤ sizeLine; decide, fun p hp => hq _ _ (Ext.upd hp) ⟨p, rfl, upd_same⟩⟩⟩
    · obtain ⟨a, dx, rfl, ha⟩ := hth
      refine ⟨_, rfl, ⟨_, _, _, _, _, rfl, .own _, T.ty_Length ha, T.kit 11 rfl, false, rfl, iteF ?_⟩⟩
      refine ⟨_, rfl, ⟨_, _, _, _, _, rfl, .own _, T.ty_Length ha, T.kit 12 rfl, true, rfl, iteT ?_⟩⟩
      exact ⟨_, rfl, a, _, dx, _, _, rfl, ha, T.c_Length, T.n_Length_seconds, rfl, hq _ H Ext.rfl' rfl⟩
theorem fldsV {H : Hp} {a : Addr} (h : H a = some (.tup [.str "code", .str "title", .str "players", .str "day", .str "length"])) : True := True.intro
def sp_law_fields (K : PySem.W.Frag) : Sp := fun vs H Q _ => vs = [] ∧ ∀ p H', Ext H H' → H p = none → H' p = some (.tup [.str "code", .str "title", .str "players", .str "day", .str "length"]) → Q (.ref p) H'
theorem ok_law_fields (T : Txt K mg) : C8.Cal P w K mg base 1 "_law_fields" (sp_law_fields K) [] := by
  obtain ⟨fd, F⟩ := T.d_law_fields
  refine cal_of F T.g_law_fields (fun _ _ _ _ _ _ us hl => match us, hl with | [], _ => rfl) sc_law_fields (fun vs H Q E h => ?_) fun cdv A outer s H vs Q E hr h => ?_
  · obtain ⟨rfl, hq⟩ := h
    rfl
  · have hu := hu_of hr
    have hu64 := hr.units
    obtain ⟨rfl, hq⟩ := h
    refine ⟨_, (pss_one (ps_ret (pe_tup (pa_cons pe_str (pa_cons pe_str (pa_cons pe_str (pa_cons pe_str (pa_cons pe_str pa_nil)))))))), ?_⟩
    exact ⟨by show 5 ≤ sizeLine; decide, fun p hp => hq p _ (Ext.upd hp) hp upd_same⟩
def sp_law_marked (K : PySem.W.Frag) : Sp := fun vs H Q _ => ∃ v e, vs = [v] ∧ EntAt K H v e ∧ EntOk e ∧ ∀ kv H', Ext H H' → MEAt H' kv e → Q kv H'
theorem ok_law_marked (T : Txt K mg) : C8.Cal P w K mg base 2 "_law_marked" (sp_law_marked K) [] := by
  obtain ⟨fd, F⟩ := T.d_law_marked
  refine cal_of F T.g_law_marked (fun _ _ _ _ _ _ us hl => match us, hl with | [_], _ => rfl) sc_law_marked (fun vs H Q E h => ?_) fun cdv A outer s H vs Q E hr h => ?_
  · obtain ⟨v, e, rfl, ⟨a, ws, rfl, ha, hp⟩, ok, hq⟩ := h
    rfl
  · have hu := hu_of hr
    have hu64 := hr.units
    obtain ⟨v, e, rfl, ⟨a, ws, rfl, ha, hp⟩, ok, hq⟩ := h
    refine ⟨_, (pss_one (ps_ret (pe_op op_catA (pe_slice sl_tup (pv 0) po_none (po_some pe_int)) (pe_callTy call_tuple_of (by rfl) T.f_tuple (by decide +kernel) (pa_cons (pe_lc (own := [("_law_thing", 1)]) (by rfl) sc_law_marked.nd (pi_tup (pe_slice sl_tup (pv 0) (po_some pe_int) po_none)) (blkOk_by (N := N_law_marked) (sc := defScope s_law_marked) (by decide +kernel)) (fun _ _ _ _ _ => (pg_name (i := 1) sc_law_marked.nd rfl (by first | exact Or.inl rfl | exact Or.inr rfl))) (fun _ _ _ _ _ => by exact pts_nil) (fun _ _ _ _ _ => by exact (pe_ifExp (pt_cmpR op_isN (pv 1) pe_non (nomark _)) pe_non (C8.pe_c (ok_law_mark T) hr (by decide) rfl (pa_cons (pv 1) pa_nil))))) pa_nil))))), ?_⟩
    have wl : ws.length = 5 := (prd_len hp).trans ok.five
    obtain ⟨w0, w1, w2, w3, w4, rfl⟩ := five_of wl
    refine ⟨_, rfl, 2, rfl, a, _, rfl, SqT.of ha, (by show ¬ ((0 : Nat) = 0 ∧ 2 = 7); decide), fun p hp' => ?_⟩
    refine ⟨_, rfl, 2, rfl, a, _, rfl, SqT.of ((Ext.upd hp') _ _ ha), (by show ¬ (2 = 0 ∧ 7 = 7); decide), fun r hr => ⟨r, rfl, ⟨_, SqT.of upd_same⟩, fun D hD => ?_⟩⟩
    generalize hG : upd (upd H p _) r _ = G at hD
    have eG : Ext H G := by rw [← hG]; exact (Ext.upd hp').trans (Ext.upd hr)
    have gp : G p = some (.tup (kvals e.key)) := by rw [← hG, upd_ne (fun z => by rw [z, upd_same] at hr; cases hr), upd_same]; rfl
    have gr : G r = some (.tup [w0, w1, w2, w3, w4]) := by rw [← hG]; exact upd_same
    clear hG
    refine lc_map (src_tup (xs := [w0, w1, w2, w3, w4])) (fun _ => False) (fun m z H' => ∃ o, e.th[m]? = some o ∧ OMkAt H' z o) (fun _ _ => True) hD (fun z => z) (by show 5 ≤ sizeLine; decide) (fun m z H H' im ⟨o, h1, h2⟩ => ⟨o, h1, h2.imm im⟩) (fun _ _ _ h => h) True.intro (fun m H' _ k _ => SqT.of (Kp.ext k _ _ gr)) (fun _ _ _ _ k => Imm.of (Kp.ext k)) (fun m z H8 H9 hm kp _ hy Q' qq => ?_) fun H8 zs kp hD8 hl8 hr8 _ => ?_
    · obtain ⟨rfl, hz⟩ := hy
      obtain ⟨o, ho, hat⟩ := prd_get hp hz
      have hat := hat.imm ((Imm.of eG).trans (Imm.of (Kp.ext kp)))
      refine ⟨rfl, _, rfl, rfl, _, rfl, ?_⟩
      rcases oth_cases hat with ⟨hz0, ho0⟩ | ⟨th, ho0, hth, hzn⟩
      · subst ho0
        exact if_decT hz0 (qq _ _ Kp.rfl' ⟨none, ho, rfl⟩ True.intro)
      · subst ho0
        exact if_decF hzn ⟨_, rfl, z, th, rfl, hth, ⟨m, ok.each m th ho⟩, fun kv H' e' q => qq _ _ (Kp.of e') ⟨some th, ho, q⟩ True.intro⟩
    · have e8 := Kp.ext kp
      refine ⟨D, zs, rfl, .inl ⟨SqL.of hD8, fun l hl => ?_⟩⟩
      refine ⟨p, l, kvals e.key, zs, rfl, rfl, SqT.of ((e8.trans (Ext.upd hl)) _ _ gp), SqT.of upd_same, (by rw [hl8]; show 2 + 5 ≤ sizeLine; decide), (fun z => nomatch z), (fun _ z => by rw [z] at hl8; cases hl8), fun _ _ c hc => ?_⟩
      have eu : Ext H8 (upd (upd H8 l (.tup zs)) c (.tup (kvals e.key ++ zs))) := (Ext.upd hl).trans (Ext.upd hc)
      refine hq _ _ ((eG.trans e8).trans eu) ⟨c, zs, rfl, upd_same, prd_ix (by rw [hl8, ok.five]; rfl) fun m z o h1 h2 => ?_⟩
      obtain ⟨o', h3, h4⟩ := hr8 m z h1
      rw [h2] at h3
      cases h3
      exact h4.imm (Imm.of eu)
end
end TW
set_option Elab.async false
set_option linter.all false
set_option maxRecDepth 100000
set_option maxHeartbeats 4000000
namespace TW
open PySem PySem.Spec PyProof.Rows L2 LamX
/-! ### dicts by marks -/
def kOf : Th → Key
  | .code s => .inr s
  | .len n => .inl n
  | _ => .inl 0
def nkOf : Th → NestedKey
  | .name t x => .tup [.text t, .text x]
  | .players l => .tup (l.map fun p => .tup [.text p.1, .text p.2])
  | .day y m d => .tup [.num y, .num (m.getD 0), .num (d.getD 0)]
  | _ => .none
def flat (i : Nat) : Bool := decide (i = 0) || decide (i = 4)
theorem kOf_inj {i : Nat} {a b : Th} (hf : flat i = true) (oa : a.ok i) (ob : b.ok i) (h : kOf a = kOf b) : a = b := by
  rcases th_ok oa with ⟨z, rfl, e, k⟩ | ⟨t, z, rfl, e, k⟩ | ⟨l, rfl, e, k⟩ | ⟨yy, m, d, rfl, e, k⟩ | ⟨n, rfl, e, k⟩ <;> subst e
  all_goals rcases th_ok ob with ⟨z', rfl, e, k'⟩ | ⟨t', z', rfl, e, k'⟩ | ⟨l', rfl, e, k'⟩ | ⟨y', m', d', rfl, e, k'⟩ | ⟨n', rfl, e, k'⟩ <;> first | cases e | skip
  · injection h with h; rw [h]
  · cases hf
  · cases hf
  · cases hf
  · injection h with h; rw [h]
theorem datas_names : ∀ l : List (Str × Str), NestedKey.datas (l.map fun p => .tup [.text p.1, .text p.2]) = l.map nmark
  | [] => by simp [NestedKey.datas]
  | p :: l => by
    rw [List.map_cons, List.map_cons, NestedKey.datas, datas_names l]
    simp [NestedKey.data, NestedKey.datas, nmark]
theorem nk_data {i : Nat} {a : Th} (hf : flat i = false) (oa : a.ok i) : (nkOf a).data = a.mark := by
  rcases th_ok oa with ⟨z, rfl, e, k⟩ | ⟨t, z, rfl, e, k⟩ | ⟨l, rfl, e, k⟩ | ⟨yy, m, d, rfl, e, k⟩ | ⟨n, rfl, e, k⟩ <;> subst e
  · cases hf
  · simp [nkOf, NestedKey.data, NestedKey.datas, Th.mark, nmark]
  · show NestedKey.data (.tup _) = PyData.tuple _
    rw [NestedKey.data, datas_names]
  · simp [nkOf, NestedKey.data, NestedKey.datas, Th.mark]
  · cases hf
theorem nk_inj {i : Nat} {a b : Th} (hf : flat i = false) (oa : a.ok i) (ob : b.ok i) (h : nkOf a = nkOf b) : a = b := by
  refine eqv_th oa ob ?_
  have e : a.mark = b.mark := by rw [← nk_data hf oa, ← nk_data hf ob, h]
  rw [e]
  have key : ∀ d : PyData, PySem.W.alike d d = true → PyData.eqv d d = true := fun d h => lt_eqv h (lex_irrefl (O := itemOrd) _) (lex_irrefl (O := itemOrd) _)
  exact key _ (alike_th ob ob)
theorem dps_names : ∀ l : List (Str × Str), NestedKey.depthAll (l.map fun p => .tup [.text p.1, .text p.2]) ≤ 1
  | [] => by simp [NestedKey.depthAll]
  | p :: l => by
    rw [List.map_cons, NestedKey.depthAll]
    have := dps_names l
    simp [NestedKey.depth, NestedKey.depthAll]
    omega
theorem nk_depth (a : Th) : (nkOf a).depth ≤ 8 := by
  cases a with
  | code s => simp [nkOf, NestedKey.depth]
  | name t x => simp [nkOf, NestedKey.depth, NestedKey.depthAll]
  | players l => have := dps_names l; simp [nkOf, NestedKey.depth]; omega
  | day y m d => simp [nkOf, NestedKey.depth, NestedKey.depthAll]
  | len n => simp [nkOf, NestedKey.depth]
section
variable {P : Program} {w : World} {K : PySem.W.Frag} {H H' : Hp} {d : Addr} {ms : List Th} {i : Nat}
def MapK (H : Hp) (d : Addr) (ms : List Th) : Prop := ∃ kvs : List (Key × V), H d = some (.dK kvs) ∧ kvs.map (fun p => p.1) = ms.map kOf
def MapN (P : Program) (w : World) (H : Hp) (d : Addr) (ms : List Th) : Prop := ∃ (us : List NX) (xs : List (NestedKey × Addr × V)), H d = some (dnO P w d us) ∧ Paired (fun (p : NestedKey × Addr × V) (q : NX) => p.1 = q.1 ∧ p.2.1 = q.2.1 ∧ RelV p.2.2 q.2.2) xs us ∧
  Paired (fun (p : NestedKey × Addr × V) (th : Th) => p.1 = nkOf th ∧ MkAt H (.ref p.2.1) th) xs ms ∧ xs.length ≤ sizeLine
/-- at d the dict whose keys are the marks of ms -/
def MapAt (P : Program) (w : World) (i : Nat) (H : Hp) (d : Addr) (ms : List Th) : Prop := if flat i = true then MapK H d ms else MapN P w H d ms
theorem MapAt.obj (h : MapAt P w i H d ms) : ∃ o, H d = some o ∧ ((∃ kvs, o = .dK kvs) ∨ ∃ us, o = dnO P w d us) := by
  unfold MapAt at h
  split at h
  · obtain ⟨kvs, h, _⟩ := h; exact ⟨_, h, .inl ⟨kvs, rfl⟩⟩
  · obtain ⟨us, xs, h, _⟩ := h; exact ⟨_, h, .inr ⟨us, rfl⟩⟩
theorem MapAt.keep (im : Imm H H') (e : H' d = H d) (h : MapAt P w i H d ms) : MapAt P w i H' d ms := by
  unfold MapAt at h ⊢
  split
  · rename_i hf
    rw [if_pos hf] at h
    obtain ⟨kvs, a, b⟩ := h
    exact ⟨kvs, e.trans a, b⟩
  · rename_i hf
    rw [if_neg hf] at h
    obtain ⟨us, xs, a, b, c, l⟩ := h
    exact ⟨us, xs, e.trans a, b, prd_mono (fun p t q => ⟨q.1, q.2.imm im⟩) c, l⟩
theorem MapAt.ext (e : Ext H H') (h : MapAt P w i H d ms) : MapAt P w i H' d ms := by
  obtain ⟨o, ho, _⟩ := h.obj
  exact h.keep (Imm.of e) ((e _ _ ho).trans ho.symm)
theorem MapAt.extN (e : ExtN H H') (h : MapAt P w i H d ms) : MapAt P w i H' d ms := by
  obtain ⟨o, ho, hk⟩ := h.obj
  refine h.keep (ExtN.imm e) ((e _ _ ho fun ps z => ?_).trans ho.symm)
  rcases hk with ⟨kvs, rfl⟩ | ⟨us, rfl⟩ <;> cases z
theorem MapN.dn (hf : flat i = false) (ok : ∀ th ∈ ms, Th.ok i th) (h : MapN P w H d ms) : ∃ xs, DN P w K H d xs ∧ Paired (fun (p : NestedKey × Addr × V) (th : Th) => p.1 = nkOf th ∧ MkAt H (.ref p.2.1) th) xs ms := by
  obtain ⟨us, xs, a, b, c, l⟩ := h
  refine ⟨xs, ⟨⟨us, a, b⟩, fun p hp => ?_, l⟩, c⟩
  obtain ⟨j, hj⟩ := List.mem_iff_getElem?.mp hp
  obtain ⟨th, h1, h2, h3⟩ := prd_get c hj
  rw [h2, nk_data hf (ok th (List.mem_of_getElem? h1))]
  exact ⟨h3.dp, nk_depth th⟩
theorem any_nk (hf : flat i = false) {th : Th} (ok : th.ok i) : ∀ {xs : List (NestedKey × Addr × V)} {ms : List Th}, Paired (fun (p : NestedKey × Addr × V) (th : Th) => p.1 = nkOf th ∧ MkAt H (.ref p.2.1) th) xs ms → (∀ t ∈ ms, Th.ok i t) → (xs.any fun p => decide (p.1 = nkOf th)) = decide (th ∈ ms)
  | _, _, .nil, _ => by simp
  | _, _, .cons (a := p) (b := t) (l₁ := xs) (l₂ := ms) a r, o => by
    rw [List.any_cons, any_nk hf ok r fun t ht => o t (List.mem_cons_of_mem _ ht), a.1, Bool.eq_iff_iff]
    rw [Bool.or_eq_true, decide_eq_true_eq, decide_eq_true_eq, decide_eq_true_eq, List.mem_cons]
    constructor
    · rintro (e | e)
      · exact .inl (nk_inj hf ok (o t List.mem_cons_self) e.symm)
      · exact .inr e
    · rintro (e | e)
      · exact .inl (by rw [e])
      · exact .inr e
theorem putK_keys {kvs : List (Key × V)} {k : Key} {v : V} : (k ∈ kvs.map (fun p => p.1) → (putK kvs k v).map (fun p => p.1) = kvs.map (fun p => p.1)) ∧ (k ∉ kvs.map (fun p => p.1) → (putK kvs k v).map (fun p => p.1) = kvs.map (fun p => p.1) ++ [k]) := by
  unfold putK
  have e : (kvs.any fun kv => decide (kv.1 = k)) = true ↔ k ∈ kvs.map (fun p => p.1) := by
    rw [List.any_eq_true]
    constructor
    · rintro ⟨p, hp, e⟩
      exact List.mem_map.mpr ⟨p, hp, of_decide_eq_true e⟩
    · intro h
      obtain ⟨p, hp, e⟩ := List.mem_map.mp h
      exact ⟨p, hp, decide_eq_true e⟩
  constructor
  · intro h
    rw [if_pos (e.mpr h), List.map_map]
    refine List.map_congr_left fun p _ => ?_
    show (if p.1 = k then (p.1, v) else p).1 = p.1
    split <;> rfl
  · intro h
    rw [if_neg (fun z => h (e.mp z)), List.map_append]
    rfl
/-- d[mark] = v -/
theorem map_put {th : Th} {kv v : V} {Nx : Hp → Prop} (h : MapAt P w i H d ms) (ok : th.ok i) (oks : ∀ t ∈ ms, Th.ok i t) (hl : ms.length < sizeLine) (hk : MkAt H kv th) (q : ∀ H4 o, H4 = upd H d o → MapAt P w i H4 d (addT ms (some th)) → Nx H4) :
    (∃ H4, DPut H d kv v H4 ∧ Nx H4) ∨ ∃ xs k b, kv = .ref b ∧ DN P w K H d xs ∧ Dp K H (.ref b) k.data ∧ k.depth ≤ 8 ∧ xs.length < sizeLine ∧ ∀ H4, DN P w K H4 d (putX xs k b v) → (∃ o, H4 = upd H d o) → Nx H4 := by
  cases hf : flat i with
  | true =>
    unfold MapAt at h
    rw [if_pos hf] at h
    obtain ⟨kvs, a, b⟩ := h
    have hkv : kv = kV (kOf th) := by
      rcases th_ok ok with ⟨z, rfl, e, k⟩ | ⟨t, z, rfl, e, k⟩ | ⟨l, rfl, e, k⟩ | ⟨yy, m, d, rfl, e, k⟩ | ⟨n, rfl, e, k⟩ <;> subst e
      · exact hk
      · cases hf
      · cases hf
      · cases hf
      · exact hk
    have hlen : kvs.length = ms.length := by have := congrArg List.length b; rwa [List.length_map, List.length_map] at this
    rw [hkv]
    refine .inl ⟨_, DPut.k a (by omega), q _ _ rfl ?_⟩
    unfold MapAt
    rw [if_pos hf]
    refine ⟨_, upd_same, ?_⟩
    have pk := putK_keys (kvs := kvs) (k := kOf th) (v := v)
    rw [b] at pk
    have e : kOf th ∈ ms.map kOf ↔ th ∈ ms := by
      constructor
      · intro h
        obtain ⟨t, ht, e⟩ := List.mem_map.mp h
        rw [← kOf_inj hf (oks t ht) ok e]; exact ht
      · exact fun h => List.mem_map.mpr ⟨th, h, rfl⟩
    by_cases hm : th ∈ ms
    · rw [show addT ms (some th) = ms from if_pos hm]; exact pk.1 (e.mpr hm)
    · rw [show addT ms (some th) = ms ++ [th] from if_neg hm, List.map_append]; exact pk.2 fun z => hm (e.mp z)
  | false =>
    unfold MapAt at h
    rw [if_neg (by rw [hf]; exact fun z => nomatch z)] at h
    have hN := h
    obtain ⟨xs, dn, pr⟩ := MapN.dn (K := K) hf oks h
    obtain ⟨us, _, hd, _⟩ := hN
    obtain ⟨b, rfl⟩ : ∃ b, kv = .ref b := by
      rcases th_ok ok with ⟨z, rfl, e, k⟩ | ⟨t, z, rfl, e, k⟩ | ⟨l, rfl, e, k⟩ | ⟨yy, m, d, rfl, e, k⟩ | ⟨n, rfl, e, k⟩ <;> subst e
      · cases hf
      · obtain ⟨b, e, _⟩ := hk; exact ⟨b, e⟩
      · obtain ⟨b, _, e, _⟩ := hk; exact ⟨b, e⟩
      · obtain ⟨b, e, _⟩ := hk; exact ⟨b, e⟩
      · cases hf
    have xl := prd_len pr
    refine .inr ⟨xs, nkOf th, b, rfl, dn, by rw [nk_data hf ok]; exact hk.dp, nk_depth th, by omega, fun H4 dn4 ⟨o, ho⟩ => q H4 o ho ?_⟩
    have im : Imm H H4 := by
      rw [ho]
      exact Imm.upd fun o' e => by rw [hd] at e; rw [← Option.some.inj e]; rfl
    unfold MapAt
    rw [if_neg (by rw [hf]; exact fun z => nomatch z)]
    obtain ⟨us4, h4, r4⟩ := dn4.ex
    refine ⟨us4, _, h4, r4, ?_, dn4.len⟩
    have pr4 : Paired (fun (p : NestedKey × Addr × V) (th : Th) => p.1 = nkOf th ∧ MkAt H4 (.ref p.2.1) th) xs ms := prd_mono (fun p t q => ⟨q.1, q.2.imm im⟩) pr
    unfold putX
    rw [any_nk hf ok pr oks]
    by_cases hm : th ∈ ms
    · rw [if_pos (decide_eq_true hm), show addT ms (some th) = ms from if_pos hm]
      refine prd_ix (by rw [List.length_map]; exact xl) fun j x t h1 h2 => ?_
      rw [List.getElem?_map] at h1
      cases hx : xs[j]? with
      | none => rw [hx] at h1; cases h1
      | some p =>
        rw [hx] at h1
        cases h1
        obtain ⟨t', a1, a2⟩ := prd_get pr4 hx
        rw [h2] at a1
        cases a1
        by_cases hp : p.1 = nkOf th
        · have e : (if p.1 = nkOf th then (p.1, p.2.1, v) else p) = (p.1, p.2.1, v) := if_pos hp
          show (if p.1 = nkOf th then (p.1, p.2.1, v) else p).1 = nkOf t ∧ MkAt H4 (.ref (if p.1 = nkOf th then (p.1, p.2.1, v) else p).2.1) t
          rw [e]
          exact a2
        · have e : (if p.1 = nkOf th then (p.1, p.2.1, v) else p) = p := if_neg hp
          show (if p.1 = nkOf th then (p.1, p.2.1, v) else p).1 = nkOf t ∧ MkAt H4 (.ref (if p.1 = nkOf th then (p.1, p.2.1, v) else p).2.1) t
          rw [e]
          exact a2
    · rw [if_neg (by rw [decide_eq_false hm]; exact fun z => nomatch z), show addT ms (some th) = ms ++ [th] from if_neg hm]
      exact prd_app pr4 (.cons ⟨rfl, hk.imm im⟩ .nil)
/-- the keys, for sorted and list -/
theorem map_keys (h : MapAt P w i H d ms) (ok : ∀ th ∈ ms, Th.ok i th) : ∃ bs, KeysAt P w K H d bs ∧ bs.map Prod.snd = ms.map Th.mark ∧ Paired (fun (p : VD) (th : Th) => MkAt H p.1 th) bs ms := by
  cases hf : flat i with
  | true =>
    unfold MapAt at h
    rw [if_pos hf] at h
    obtain ⟨kvs, a, b⟩ := h
    have hm : ∀ th ∈ ms, kdata (kOf th) = th.mark ∧ MkAt H (kV (kOf th)) th := fun th hth => by
      rcases th_ok (ok th hth) with ⟨z, rfl, e, k⟩ | ⟨t, z, rfl, e, k⟩ | ⟨l, rfl, e, k⟩ | ⟨yy, m, d, rfl, e, k⟩ | ⟨n, rfl, e, k⟩ <;> subst e
      · exact ⟨rfl, rfl⟩
      · cases hf
      · cases hf
      · cases hf
      · exact ⟨rfl, rfl⟩
    refine ⟨kvs.map fun p => (kV p.1, kdata p.1), .k (.inl a) fun k => by cases k <;> rfl, ?_, ?_⟩
    · rw [List.map_map]
      show kvs.map (fun p => kdata p.1) = _
      have : kvs.map (fun p => kdata p.1) = (kvs.map fun p => p.1).map kdata := by rw [List.map_map]; rfl
      rw [this, b, List.map_map]
      exact List.map_congr_left fun th hth => (hm th hth).1
    · refine prd_ix (by have := congrArg List.length b; simpa using this) fun j x th h1 h2 => ?_
      rw [List.getElem?_map] at h1
      cases hx : kvs[j]? with
      | none => rw [hx] at h1; cases h1
      | some p =>
        rw [hx] at h1
        cases h1
        have e1 : (kvs.map fun p => p.1)[j]? = some p.1 := by rw [List.getElem?_map, hx]; rfl
        rw [b, List.getElem?_map, h2] at e1
        have e1 : kOf th = p.1 := Option.some.inj e1
        show MkAt H (kV p.1) th
        rw [← e1]
        exact (hm th (List.mem_of_getElem? h2)).2
  | false =>
    unfold MapAt at h
    rw [if_neg (by rw [hf]; exact fun z => nomatch z)] at h
    obtain ⟨xs, dn, pr⟩ := MapN.dn (K := K) hf ok h
    refine ⟨xs.map fun p => (V.ref p.2.1, p.1.data), .n dn, ?_, ?_⟩
    · apply List.ext_getElem?
      intro j
      rw [List.map_map, List.getElem?_map, List.getElem?_map]
      cases hx : xs[j]? with
      | none =>
        have := List.getElem?_eq_none_iff.mp hx
        rw [List.getElem?_eq_none (by rw [← prd_len pr]; exact this)]
        rfl
      | some p =>
        obtain ⟨t, a1, a2, _⟩ := prd_get pr hx
        rw [a1]
        show some p.1.data = some t.mark
        rw [a2, nk_data hf (ok t (List.mem_of_getElem? a1))]
    · refine prd_ix (by rw [List.length_map]; exact prd_len pr) fun j x th h1 h2 => ?_
      rw [List.getElem?_map] at h1
      cases hx : xs[j]? with
      | none => rw [hx] at h1; cases h1
      | some p =>
        rw [hx] at h1
        cases h1
        obtain ⟨t, a1, _, a3⟩ := prd_get pr hx
        rw [h2] at a1
        cases a1
        exact a3
end
end TW
set_option Elab.async false
set_option linter.all false
set_option maxRecDepth 100000
set_option maxHeartbeats 4000000
namespace TW
open PySem PySem.Spec PyProof.Rows L2 LamX
/-! ### the table of dicts -/
abbrev DRow := Addr × List Addr × List (List Th)
abbrev DTab := List (LKey × DRow)
def absD (T : DTab) : ATab := T.map fun t => (t.1, t.2.2.2)
def dicts (T : DTab) : List Addr := T.flatMap fun t => t.2.2.1
structure DRowAt (P : Program) (w : World) (H : Hp) (v : V) (r : DRow) : Prop where
  ref : v = .ref r.1
  lst : H r.1 = some (.lst (r.2.1.map V.ref))
  l5 : r.2.1.length = 5
  c5 : r.2.2.length = 5
  map : ∀ (i : Nat) (d : Addr) (ms : List Th), r.2.1[i]? = some d → r.2.2[i]? = some ms → MapAt P w i H d ms
def DTabAt (P : Program) (w : World) (H : Hp) (kvs : List (List Key × V)) (T : DTab) : Prop := Paired (fun kv t => kv.1 = kkey t.1 ∧ DRowAt P w H kv.2 t.2) kvs T
structure DB (P : Program) (w : World) (B H : Hp) (d : Addr) (T : DTab) : Prop where
  dic : ∃ kvs, H d = some (.dT kvs) ∧ DTabAt P w H kvs T
  nod : (dicts T).Nodup
  fd : B d = none
  fl : ∀ l ∈ dicts T, B l = none
section
variable {P : Program} {w : World} {B H H' : Hp} {d : Addr} {T : DTab} {kvs : List (List Key × V)}
/-- all but dicts of tuple keys stay -/
def ExtD (H H' : Hp) : Prop := Imm H H' ∧ ∀ b o, H b = some o → (∀ kvs, o ≠ .dT kvs) → (∀ ps, o ≠ .tbl ps) → H' b = some o
theorem ExtD.of (e : Ext H H') : ExtD H H' := ⟨Imm.of e, fun b o h _ _ => e b o h⟩
theorem ExtD.ofN (e : ExtN H H') : ExtD H H' := ⟨ExtN.imm e, fun b o h _ n => e b o h n⟩
theorem ExtD.upd {o : HO} (h : H d = some (.dT kvs)) : ExtD H (upd H d o) := ⟨imm_frz h, fun b o' hb n _ => by
  rw [upd_ne (fun z => n kvs (by rw [z, h] at hb; exact (Option.some.inj hb).symm))]
  exact hb⟩
theorem MapAt.extD {i : Nat} {d : Addr} {ms : List Th} (e : ExtD H H') (h : MapAt P w i H d ms) : MapAt P w i H' d ms := by
  obtain ⟨o, ho, hk⟩ := h.obj
  refine h.keep e.1 ((e.2 _ _ ho ?_ ?_).trans ho.symm)
  · rcases hk with ⟨kvs, rfl⟩ | ⟨us, rfl⟩ <;> exact fun _ z => nomatch z
  · rcases hk with ⟨kvs, rfl⟩ | ⟨us, rfl⟩ <;> exact fun _ z => nomatch z
theorem DRowAt.extD {v : V} {r : DRow} (e : ExtD H H') (h : DRowAt P w H v r) : DRowAt P w H' v r :=
  ⟨h.ref, e.2 _ _ h.lst (fun _ z => nomatch z) (fun _ z => nomatch z), h.l5, h.c5, fun i d ms a b => (h.map i d ms a b).extD e⟩
theorem DTabAt.extD (e : ExtD H H') (h : DTabAt P w H kvs T) : DTabAt P w H' kvs T := prd_mono (fun _ _ q => ⟨q.1, q.2.extD e⟩) h
theorem DB.ext (e : Ext H H') (h : DB P w B H d T) : DB P w B H' d T :=
  ⟨let ⟨kvs, a, b⟩ := h.dic; ⟨kvs, e _ _ a, b.extD (ExtD.of e)⟩, h.nod, h.fd, h.fl⟩
theorem dicts_cons (x : LKey × DRow) (T : DTab) : dicts (x :: T) = x.2.2.1 ++ dicts T := by simp [dicts]
theorem dicts_app (T T' : DTab) : dicts (T ++ T') = dicts T ++ dicts T' := by simp [dicts]
theorem dicts_set {k k' : LKey} {a : Addr} {ds : List Addr} {c c' : List (List Th)} : ∀ {T : DTab} {j : Nat}, T[j]? = some (k', (a, ds, c)) → dicts (T.set j (k, (a, ds, c'))) = dicts T
  | [], _, h => by simp at h
  | x :: T, 0, h => by
    have e : x = (k', (a, ds, c)) := by simpa using h
    rw [e, List.set_cons_zero, dicts_cons, dicts_cons]
  | x :: T, j + 1, h => by
    rw [List.set_cons_succ, dicts_cons, dicts_cons, dicts_set (T := T) (by simpa using h)]
theorem mem_dicts {t : LKey × DRow} {l : Addr} (ht : t ∈ T) (hl : l ∈ t.2.2.1) : l ∈ dicts T := List.mem_flatMap.mpr ⟨t, ht, hl⟩
theorem absD_set {j : Nat} {k : LKey} {a : Addr} {ds : List Addr} {c : List (List Th)} : absD (T.set j (k, (a, ds, c))) = (absD T).set j (k, c) := by
  unfold absD
  rw [List.map_set]
/-- an object of a dict by marks -/
def IsM (P : Program) (w : World) (H : Hp) (l : Addr) : Prop := ∃ o, H l = some o ∧ ((∃ kvs, o = .dK kvs) ∨ ∃ us, o = dnO P w l us)
theorem IsM.imm {l : Addr} {o : HO} (h : IsM P w H l) : Imm H (upd H l o) := Imm.upd fun o' e => by
  obtain ⟨o2, h1, h2⟩ := h
  rw [h1] at e
  rw [← Option.some.inj e]
  rcases h2 with ⟨kvs, rfl⟩ | ⟨us, rfl⟩ <;> rfl
theorem IsM.ne {l b : Addr} {u : HO} (h : IsM P w H l) (hb : H b = some u) (hu : (∃ vs, u = .lst vs) ∨ ∃ kvs, u = .dT kvs) : b ≠ l := fun e => by
  obtain ⟨o2, h1, h2⟩ := h
  rw [e, h1] at hb
  cases hb
  rcases h2 with ⟨kvs, rfl⟩ | ⟨us, rfl⟩ <;> rcases hu with ⟨vs, z⟩ | ⟨vs, z⟩ <;> cases z
theorem DRowAt.keep {l : Addr} {o : HO} {v : V} {r : DRow} (hm : IsM P w H l) (h : DRowAt P w H v r) (n : l ∉ r.2.1) : DRowAt P w (upd H l o) v r :=
  ⟨h.ref, by rw [upd_ne (hm.ne h.lst (.inl ⟨_, rfl⟩))]; exact h.lst, h.l5, h.c5, fun i d ms a b => (h.map i d ms a b).keep hm.imm (upd_ne fun z => n (z ▸ List.mem_of_getElem? a))⟩
theorem dtab_keep {l : Addr} {o : HO} (hm : IsM P w H l) : ∀ {kvs : List (List Key × V)} {T : DTab}, DTabAt P w H kvs T → l ∉ dicts T → DTabAt P w (upd H l o) kvs T
  | _, _, .nil, _ => .nil
  | _, _, .cons (b := t) (l₂ := T) a r, n => by
    rw [dicts_cons, List.mem_append, not_or] at n
    exact .cons ⟨a.1, a.2.keep hm n.1⟩ (dtab_keep hm r n.2)
theorem drow_put {l : Addr} {o : HO} {v : V} {a : Addr} {ds : List Addr} {cs : List (List Th)} {ms' : List Th} {i : Nat} (hm : IsM P w H l) (h : DRowAt P w H v (a, ds, cs)) (nd : ds.Nodup) (h1 : ds[i]? = some l) (h2 : MapAt P w i (upd H l o) l ms') : DRowAt P w (upd H l o) v (a, ds, cs.set i ms') := by
  refine ⟨h.ref, by rw [upd_ne (hm.ne h.lst (.inl ⟨_, rfl⟩))]; exact h.lst, h.l5, by rw [List.length_set]; exact h.c5, fun i' d' m a1 a2 => ?_⟩
  have a1 : ds[i']? = some d' := a1
  have a2 : (cs.set i ms')[i']? = some m := a2
  by_cases e : i = i'
  · subst e
    rw [h1] at a1
    cases a1
    have hi : i < cs.length := by have := (List.getElem?_eq_some_iff.mp a2).1; rwa [List.length_set] at this
    rw [List.getElem?_set_self hi] at a2
    cases a2
    exact h2
  · rw [List.getElem?_set_ne e] at a2
    have hne : d' ≠ l := fun z => by
      subst z
      exact e ((List.getElem?_inj (List.getElem?_eq_some_iff.mp h1).1 nd).mp (h1.trans a1.symm))
    exact (h.map i' d' m a1 a2).keep hm.imm (upd_ne hne)
theorem dtab_put {l : Addr} {o : HO} {k : LKey} {a : Addr} {ds : List Addr} {cs : List (List Th)} {ms' : List Th} {i : Nat} (hm : IsM P w H l) (h1 : ds[i]? = some l) (h2 : MapAt P w i (upd H l o) l ms') :
    ∀ {kvs : List (List Key × V)} {T : DTab} {j : Nat}, DTabAt P w H kvs T → (dicts T).Nodup → T[j]? = some (k, (a, ds, cs)) → DTabAt P w (upd H l o) kvs (T.set j (k, (a, ds, cs.set i ms')))
  | _, _, _, .nil, _, h => by simp at h
  | _, t :: T, 0, .cons q r, nd, h => by
    have e : t = (k, (a, ds, cs)) := by simpa using h
    subst e
    rw [dicts_cons, List.nodup_append] at nd
    rw [List.set_cons_zero]
    have hmm : l ∈ ds := List.mem_of_getElem? h1
    exact .cons ⟨q.1, drow_put hm q.2 nd.1 h1 h2⟩ (dtab_keep hm r fun z => nd.2.2 l hmm l z rfl)
  | _, t :: T, j + 1, .cons q r, nd, h => by
    have h' : T[j]? = some (k, (a, ds, cs)) := by simpa using h
    rw [dicts_cons, List.nodup_append] at nd
    rw [List.set_cons_succ]
    have hmm : l ∈ dicts T := mem_dicts (List.mem_of_getElem? h') (List.mem_of_getElem? h1)
    exact .cons ⟨q.1, q.2.keep hm fun z => nd.2.2 l z l hmm rfl⟩ (dtab_put hm h1 h2 r nd.2.1 h')
/-- a thing put into the dict of its field -/
theorem DB.put {l : Addr} {o : HO} {k : LKey} {a : Addr} {ds : List Addr} {cs : List (List Th)} {ms' : List Th} {i j : Nat} (h : DB P w B H d T) (hm : IsM P w H l) (h3 : T[j]? = some (k, (a, ds, cs))) (h1 : ds[i]? = some l) (h2 : MapAt P w i (upd H l o) l ms') :
    DB P w B (upd H l o) d (T.set j (k, (a, ds, cs.set i ms'))) := by
  obtain ⟨kvs, e2, e3⟩ := h.dic
  refine ⟨⟨kvs, by rw [upd_ne (hm.ne e2 (.inr ⟨_, rfl⟩))]; exact e2, dtab_put hm h1 h2 e3 h.nod h3⟩, ?_, h.fd, ?_⟩
  · rw [dicts_set h3]; exact h.nod
  · rw [dicts_set h3]; exact h.fl
/-- the row of a key -/
theorem dtab_val {k : LKey} : ∀ {kvs : List (List Key × V)} {T : DTab}, DTabAt P w H kvs T → (∀ v, valV kvs (kkey k) = some v → ∃ (j : Nat) (r : DRow), T[j]? = some (k, r) ∧ DRowAt P w H v r) ∧ (valV kvs (kkey k) = none → hasK (absD T) k = false)
  | _, _, .nil => ⟨(fun v h => by rw [valV_nil] at h; cases h), fun _ => rfl⟩
  | _, _, .cons (a := kv) (b := t) (l₁ := kvs) (l₂ := T) a r => by
    obtain ⟨i1, i2⟩ := dtab_val (k := k) r
    by_cases e : kv.1 = kkey k
    · rw [valV_pos e]
      have ek : t.1 = k := kkey_inj (a.1.symm.trans e)
      refine ⟨fun v h => ⟨0, t.2, by rw [← ek]; rfl, by rw [← Option.some.inj h]; exact a.2⟩, fun h => nomatch h⟩
    · rw [valV_neg e]
      have ek : t.1 ≠ k := fun z => e (by rw [a.1, z])
      refine ⟨fun v h => ?_, fun h => ?_⟩
      · obtain ⟨j, r, h1, h2⟩ := i1 v h
        exact ⟨j + 1, r, by simpa using h1, h2⟩
      · have := i2 h
        show (decide (t.1 = k) || hasK (absD T) k) = false
        rw [this, decide_eq_false ek]
        rfl
theorem dtab_len (h : DTabAt P w H kvs T) : (absD T).length = kvs.length := by rw [prd_len h]; unfold absD; rw [List.length_map]
/-- five new dicts -/
theorem map_new {i : Nat} {d : Addr} (h : (flat i = true ∧ H d = some (.dK [])) ∨ (flat i = false ∧ ∃ K, DN P w K H d [])) : MapAt P w i H d [] := by
  unfold MapAt
  rcases h with ⟨hf, h⟩ | ⟨hf, K, h⟩
  · rw [if_pos hf]; exact ⟨[], h, rfl⟩
  · rw [if_neg (by rw [hf]; exact fun z => nomatch z)]
    obtain ⟨us, h1, h2⟩ := h.ex
    exact ⟨us, [], h1, h2, .nil, Nat.zero_le _⟩
/-- a new row -/
theorem DB.row {k : LKey} {a : Addr} {ds : List Addr} (h : DB P w B H d T) (hr : DRowAt P w H (.ref a) (a, ds, [[], [], [], [], []])) (nd : ds.Nodup) (hn : ∀ l ∈ ds, l ∉ dicts T ∧ B l = none) (hk : ∀ kvs, H d = some (.dT kvs) → valV kvs (kkey k) = none → True) :
    ∀ kvs, H d = some (.dT kvs) → valV kvs (kkey k) = none → DB P w B (upd H d (.dT (putK kvs (kkey k) (.ref a)))) d (T ++ [(k, (a, ds, [[], [], [], [], []]))]) := by
  intro kvs0 h0 hv
  obtain ⟨kvs, e2, e3⟩ := h.dic
  rw [h0] at e2
  cases e2
  rw [putK_new _ hv]
  have ex : ExtD H (upd H d (.dT (kvs0 ++ [(kkey k, .ref a)]))) := ExtD.upd h0
  refine ⟨⟨_, upd_same, ?_⟩, ?_, h.fd, ?_⟩
  · exact prd_app (e3.extD ex) (.cons ⟨rfl, hr.extD ex⟩ .nil)
  · rw [dicts_app, List.nodup_append]
    refine ⟨h.nod, by simpa [dicts] using nd, fun x hx y hy e => ?_⟩
    have hy : y ∈ ds := by simpa [dicts] using hy
    exact (hn y hy).1 (e ▸ hx)
  · intro l hl
    rw [dicts_app] at hl
    rcases List.mem_append.mp hl with hl | hl
    · exact h.fl l hl
    · exact (hn l (by simpa [dicts] using hl)).2
/-- the due table, to be read -/
def DueAt (P : Program) (w : World) (H : Hp) (d : Addr) (t : ATab) : Prop := ∃ kvs T, H d = some (.dT kvs) ∧ DTabAt P w H kvs T ∧ absD T = t
theorem DB.due (h : DB P w B H d T) : DueAt P w H d (absD T) := let ⟨kvs, a, b⟩ := h.dic; ⟨kvs, T, a, b, rfl⟩
theorem DueAt.ext {t : ATab} (e : Ext H H') (h : DueAt P w H d t) : DueAt P w H' d t := let ⟨kvs, T, a, b, c⟩ := h; ⟨kvs, T, e _ _ a, b.extD (ExtD.of e), c⟩
theorem DueAt.extN {t : ATab} (e : ExtN H H') (h : DueAt P w H d t) : DueAt P w H' d t := let ⟨kvs, T, a, b, c⟩ := h; ⟨kvs, T, e _ _ a (fun _ z => nomatch z), b.extD (ExtD.ofN e), c⟩
end
end TW
set_option Elab.async false
set_option linter.all false
set_option maxRecDepth 100000
set_option maxHeartbeats 4000000
namespace TW
open PySem PySem.Spec PyProof.Rows L2
section
variable {P : Program} {w : World} {K : PySem.W.Frag} {mg : Str → Option Value} {base : Heap}

def sp_law_due (K : PySem.W.Frag) (P : Program) (w : World) : Sp := fun vs H Q _ => ∃ (g : Addr) (ws : List V) (es U : List Ent), vs = [.ref g] ∧ H g = some (.lst ws) ∧ Paired (EntAt K H) ws es ∧ UOk U ∧ (∀ e ∈ es, e ∈ U) ∧ ∀ r H', Ext H H' → H r = none → DueAt P w H' r (tabOf es) → Q (.ref r) H'
theorem dict_some {w : World} {H : Hp} : ∀ {kvs : List (List Key × V)} {T : DTab}, DTabAt P w H kvs T → ∀ l ∈ dicts T, ∃ o, H l = some o
  | _, _, .nil, _, h => by cases h
  | _, _, .cons (b := t) (l₂ := T) a r, l, h => by
    rw [dicts_cons] at h
    rcases List.mem_append.mp h with h | h
    · obtain ⟨i, hi⟩ := List.mem_iff_getElem?.mp h
      have hl := (List.getElem?_eq_some_iff.mp hi).1
      obtain ⟨o, ho, _⟩ := (a.2.map i l _ hi (List.getElem?_eq_getElem (by rw [a.2.c5]; rw [a.2.l5] at hl; exact hl))).obj
      exact ⟨o, ho⟩
    · exact dict_some r l h
theorem ok_law_due (T : Txt K mg) : C8.Cal P w K mg base 3 "_law_due" (sp_law_due K P w) [] := by
  obtain ⟨fd, F⟩ := T.d_law_due
  refine cal_of F T.g_law_due (fun _ _ _ _ _ _ us hl => match us, hl with | [_], _ => rfl) sc_law_due (fun vs H Q E h => ?_) fun cdv A outer s H vs Q E hr h => ?_
  · obtain ⟨g, ws, es, U, rfl, hg, hp, uo, hsub, hq⟩ := h
    rfl
  · have hu := hu_of hr
    have hu64 := hr.units
    obtain ⟨g, ws, es, U, rfl, hg, hp, uo, hsub, hq⟩ := h
    refine ⟨_, (pss_cons (ps_set (i := 1) sc_law_due.nd rfl (by first | exact Or.inl rfl | exact Or.inr rfl) (PE.or pe_dnewK (PE.or pe_dnewN pe_dnewT)))
    (pss_cons (ps_for PassesOwn.never rfl (pi_list (pv 0)) (pg_name (i := 2) sc_law_due.nd rfl (by first | exact Or.inl rfl | exact Or.inr rfl))
    (pss_cons (ps_set (i := 3) sc_law_due.nd rfl (by first | exact Or.inl rfl | exact Or.inr rfl) (pe_dsetT hu (pv 1) (pe_slice sl_tup (pv 2) po_none (po_some pe_int)) (pe_lst (pa_cons (PE.or pe_dnewK (PE.or pe_dnewN pe_dnewT)) (pa_cons (PE.or pe_dnewK (PE.or pe_dnewN pe_dnewT)) (pa_cons (PE.or pe_dnewK (PE.or pe_dnewN pe_dnewT)) (pa_cons (PE.or pe_dnewK (PE.or pe_dnewN pe_dnewT)) (pa_cons (PE.or pe_dnewK (PE.or pe_dnewN pe_dnewT)) pa_nil)))))) ⟨by rfl, by rfl, by rfl, by rfl⟩))
    (pss_one (ps_for PassesOwn.never rfl (pi_zipM false (by rfl) T.f_zip (pa_cons (pv 3) (pa_cons (pe_slice sl_tup (pv 2) (po_some pe_int) po_none) pa_nil))) (pg_tup (by rfl) (pgs_cons (pg_name (i := 4) sc_law_due.nd rfl (by first | exact Or.inl rfl | exact Or.inr rfl)) (pgs_cons (pg_name (i := 5) sc_law_due.nd rfl (by first | exact Or.inl rfl | exact Or.inr rfl)) pgs_nil)))
    (pss_one (ps_if (pt_cmpR op_notN (pv 5) pe_non (nomark _)) (pss_one (ps_dputA hu64 (pv 4) (C8.pe_c (ok_law_mark T) hr (by decide) rfl (pa_cons (pv 5) pa_nil)) (pv 5) rfl)) pss_nil))))))
    (pss_one (ps_ret (pv 1))))), ?_⟩
    refine .inr (.inr fun d hd => ?_)
    refine next_ok ?_
    dsimp only
    generalize hG : upd H d _ = G
    have e1 : Ext H G := by rw [← hG]; exact Ext.upd hd
    have hGd : G d = some (.dT []) := by rw [← hG]; exact upd_same
    clear hG
    refine ⟨_, rfl, g, rfl, ⟨ws, SqL.of (e1 _ _ hg)⟩, ?_⟩
    refine for_src (src_list (xs := ws)) (fun i σ H' => ∃ (s2 s3 s4 s5 : Option V) (T : DTab), σ = [some (.ref g), some (.ref d), s2, s3, s4, s5] ∧ Ext H H' ∧ DB P w H H' d T ∧ absD T = (es.take i).foldl putT []) ⟨_, _, _, _, [], rfl, e1, ⟨⟨[], hGd, .nil⟩, List.nodup_nil, hd, fun _ h => nomatch h⟩, rfl⟩ (fun i σ H' _ ⟨_, _, _, _, _, _, e, _⟩ => SqL.of (e _ _ hg)) (fun i x σ H1 H2 hi hP hy => ?_) fun σ H' ⟨_, _, _, _, T1, hσ, e, db, ab⟩ => ?_
    · obtain ⟨rfl, hx⟩ := hy
      obtain ⟨s2, s3, s4, s5, T0, rfl, e2, db, ab⟩ := hP
      obtain ⟨e, he, hze⟩ := prd_get hp hx
      have heU := hsub e (List.mem_of_getElem? he)
      have ok := uo.each e heU
      have tok : TabOk U (absD T0) := by rw [ab]; exact tabOk_fold uo tabOk_nil fun e' he' => hsub e' (List.mem_of_mem_take he')
      obtain ⟨a, us, rfl, ha, hpu⟩ := hze.imm (Imm.of e2)
      have ul : us.length = 5 := (prd_len hpu).trans ok.five
      obtain ⟨u0, u1, u2, u3, u4, rfl⟩ := five_of ul
      refine seq_cut (fun σ H' => ∃ (s4 s5 : Option V) (ka : Addr) (T : DTab) (j : Nat) (ds : List Addr) (cs : List (List Th)), σ = [some (.ref g), some (.ref d), some (.ref a), some (.ref ka), s4, s5] ∧ Ext H H' ∧ Imm H2 H' ∧ DB P w H H' d T ∧ T[j]? = some (e.key, (ka, ds, cs)) ∧ absD T = withK (absD T0) e.key) (fun N hN => ?_) (fun σ H' hP => ?_)
      · obtain ⟨kvs, hdic, htab⟩ := db.dic
        refine ⟨_, rfl, d, rfl, .inr ⟨kvs, .inl hdic⟩, _, rfl, 2, rfl, a, _, rfl, SqT.of ha, (by show ¬ ((0 : Nat) = 0 ∧ 2 = 7); decide), fun b hb => ?_⟩
        generalize hGb : upd H2 b _ = Gb
        have fb : Ext H2 Gb := by rw [← hGb]; exact Ext.upd hb
        have tb : Gb b = some (.tup (kvals e.key)) := by rw [← hGb, upd_same]; rfl
        clear hGb
        refine .inl fun d0 h0 => .inr (.inl fun d1 G1 h1 n1 ⟨o1, q1⟩ => .inr (.inl fun d2 G2 h2 n2 ⟨o2, q2⟩ => .inr (.inl fun d3 G3 h3 n3 ⟨o3, q3⟩ => .inl fun d4 h4 => ⟨by show 5 ≤ sizeLine; decide, fun ka hka => ?_⟩)))
        generalize hG0 : upd Gb d0 (.dK []) = G0 at h1 q1
        have f0 : Ext Gb G0 := by rw [← hG0]; exact Ext.upd h0
        have t0 : MapAt P w 0 G0 d0 [] := map_new (.inl ⟨rfl, by rw [← hG0]; exact upd_same⟩)
        have f1 : Ext G0 G1 := by rw [q1]; exact Ext.upd h1
        have t1 : MapAt P w 1 G1 d1 [] := map_new (.inr ⟨rfl, _, n1⟩)
        have f2 : Ext G1 G2 := by rw [q2]; exact Ext.upd h2
        have t2 : MapAt P w 2 G2 d2 [] := map_new (.inr ⟨rfl, _, n2⟩)
        have f3 : Ext G2 G3 := by rw [q3]; exact Ext.upd h3
        have t3 : MapAt P w 3 G3 d3 [] := map_new (.inr ⟨rfl, _, n3⟩)
        generalize hG4 : upd G3 d4 (.dK []) = G4 at hka
        have f4 : Ext G3 G4 := by rw [← hG4]; exact Ext.upd h4
        have t4 : MapAt P w 4 G4 d4 [] := map_new (.inl ⟨rfl, by rw [← hG4]; exact upd_same⟩)
        generalize hG5 : upd G4 ka _ = G5
        have f5 : Ext G4 G5 := by rw [← hG5]; exact Ext.upd hka
        have t5 : G5 ka = some (.lst ([d0, d1, d2, d3, d4].map V.ref)) := by rw [← hG5, upd_same]; rfl
        clear hG0 hG4 hG5
        have F5 : Ext H2 G5 := ((((((fb.trans f0).trans f1).trans f2).trans f3).trans f4).trans f5)
        obtain ⟨ob0, hb0, _⟩ := t0.obj
        obtain ⟨ob1, hb1, _⟩ := t1.obj
        obtain ⟨ob2, hb2, _⟩ := t2.obj
        obtain ⟨ob3, hb3, _⟩ := t3.obj
        have n01 : d0 ≠ d1 := ne_of_none hb0 h1
        have n02 : d0 ≠ d2 := ne_of_none (f1 _ _ hb0) h2
        have n03 : d0 ≠ d3 := ne_of_none (f2 _ _ (f1 _ _ hb0)) h3
        have n04 : d0 ≠ d4 := ne_of_none (f3 _ _ (f2 _ _ (f1 _ _ hb0))) h4
        have n12 : d1 ≠ d2 := ne_of_none hb1 h2
        have n13 : d1 ≠ d3 := ne_of_none (f2 _ _ hb1) h3
        have n14 : d1 ≠ d4 := ne_of_none (f3 _ _ (f2 _ _ hb1)) h4
        have n23 : d2 ≠ d3 := ne_of_none hb2 h3
        have n24 : d2 ≠ d4 := ne_of_none (f3 _ _ hb2) h4
        have n34 : d3 ≠ d4 := ne_of_none hb3 h4
        have z0 : H2 d0 = none := Ext.free fb h0
        have z1 : H2 d1 = none := Ext.free (fb.trans f0) h1
        have z2 : H2 d2 = none := Ext.free ((fb.trans f0).trans f1) h2
        have z3 : H2 d3 = none := Ext.free (((fb.trans f0).trans f1).trans f2) h3
        have z4 : H2 d4 = none := Ext.free ((((fb.trans f0).trans f1).trans f2).trans f3) h4
        have zs : ∀ l ∈ [d0, d1, d2, d3, d4], H2 l = none := fun l hl => by
          simp only [List.mem_cons, List.not_mem_nil, or_false] at hl
          rcases hl with e | e | e | e | e <;> subst e <;> assumption
        have nd5 : [d0, d1, d2, d3, d4].Nodup := by simp [n01, n02, n03, n04, n12, n13, n14, n23, n24, n34]
        have row : DRowAt P w G5 (.ref ka) (ka, [d0, d1, d2, d3, d4], [[], [], [], [], []]) := by
          refine ⟨rfl, t5, rfl, rfl, fun i d' ms a1 a2 => ?_⟩
          have a1 : [d0, d1, d2, d3, d4][i]? = some d' := a1
          have a2 : ([[], [], [], [], []] : List (List Th))[i]? = some ms := a2
          rcases i with _ | _ | _ | _ | _ | i
          · cases a1; cases a2; exact t0.ext ((((f1.trans f2).trans f3).trans f4).trans f5)
          · cases a1; cases a2; exact t1.ext (((f2.trans f3).trans f4).trans f5)
          · cases a1; cases a2; exact t2.ext ((f3.trans f4).trans f5)
          · cases a1; cases a2; exact t3.ext (f4.trans f5)
          · cases a1; cases a2; exact t4.ext f5
          · simp at a1
        have db5 := db.ext F5
        have hd5 := F5 _ _ hdic
        have hlen : kvs.length < sizeLine := by
          rw [← dtab_len htab]
          exact Nat.lt_of_le_of_lt (tok.len uo) (by decide)
        refine ⟨kvs, kkey e.key, b, rfl, hd5, ((((f0.trans f1).trans f2).trans f3).trans f4 |>.trans f5) _ _ tb, hlen, fun v hv => ?_, fun hn => ?_⟩
        · obtain ⟨j, r, hj, hr⟩ := (dtab_val htab).1 v hv
          obtain ⟨ka', ds, cs⟩ := r
          have e := hr.ref
          subst e
          have hh : hasK (absD T0) e.key = true := hasK_iff.mpr ⟨(e.key, cs), List.mem_map.mpr ⟨_, List.mem_of_getElem? hj, rfl⟩, rfl⟩
          exact hN _ _ ⟨_, _, ka', T0, j, ds, cs, rfl, e2.trans F5, Imm.of F5, db5, hj, by unfold withK; rw [if_pos hh]⟩
        · have hh : hasK (absD T0) e.key = false := (dtab_val htab).2 hn
          refine hN _ _ ⟨_, _, ka, T0 ++ [(e.key, (ka, [d0, d1, d2, d3, d4], [[], [], [], [], []]))], T0.length, [d0, d1, d2, d3, d4], [[], [], [], [], []], rfl, Ext.mut (e2.trans F5) hd, (Imm.of F5).trans (imm_frz hd5), ?_, ?_, ?_⟩
          · refine db5.row row nd5 (fun l hl => ⟨fun z => ?_, Ext.free e2 (zs l hl)⟩) (fun _ _ _ => True.intro) kvs hd5 hn
            obtain ⟨o, ho⟩ := dict_some htab l z
            rw [zs l hl] at ho
            cases ho
          · rw [List.getElem?_append_right (Nat.le_refl _), Nat.sub_self]; rfl
          · unfold absD withK
            rw [if_neg (by rw [show hasK (T0.map fun t => (t.1, t.2.2.2)) e.key = false from hh]; decide), List.map_append]
            rfl
      · obtain ⟨s4', s5', ka, T1, j, ds, cs, rfl, e3, im3, db1, hj, hab⟩ := hP
        have tok1 : TabOk U (absD T1) := by rw [hab]; exact tabOk_with tok heU
        have hjA : (absD T1)[j]? = some (e.key, cs) := by unfold absD; rw [List.getElem?_map, hj]; rfl
        have rowMem : (e.key, cs) ∈ absD T1 := List.mem_of_getElem? hjA
        have c5 : cs.length = 5 := tok1.five _ rowMem
        have ceq : cs.length = e.th.length := c5.trans ok.five.symm
        obtain ⟨kvs, hdic, htab⟩ := db1.dic
        obtain ⟨kv, hkv, _, hrow⟩ := prd_at htab hj
        have hka := hrow.lst
        have d5 := hrow.l5
        have ha' := im3 _ _ ha rfl
        refine ⟨_, rfl, _, rfl, 2, rfl, a, _, rfl, SqT.of ha', (by show ¬ (2 = 0 ∧ 7 = 7); decide), fun r hr => ⟨ka, r, ds.map V.ref, [u0, u1, u2, u3, u4], rfl, SqL.of ((Ext.upd hr) _ _ hka), SqT.of upd_same, ?_⟩⟩
        generalize hGr : upd H' r _ = Gr
        have fr : Ext H' Gr := by rw [← hGr]; exact Ext.upd hr
        have tr : Gr r = some (.tup [u0, u1, u2, u3, u4]) := by rw [← hGr]; exact upd_same
        clear hGr
        refine for_src (src_zipM (n := 5) (by rw [List.length_map]; exact d5.symm) rfl) (fun m σ H' => ∃ (s4 s5 : Option V) (T : DTab), σ = [some (.ref g), some (.ref d), some (.ref a), some (.ref ka), s4, s5] ∧ Ext H H' ∧ Imm H2 H' ∧ DB P w H H' d T ∧ H' r = some (.tup [u0, u1, u2, u3, u4]) ∧ H' ka = some (.lst (ds.map V.ref)) ∧ T[j]? = some (e.key, (ka, ds, stepRow m cs e.th)) ∧ absD T = (absD T1).set j (e.key, stepRow m cs e.th))
          ⟨_, _, T1, rfl, e3.trans fr, im3.trans (Imm.of fr), db1.ext fr, tr, fr _ _ hka, by rw [stepRow_zero ceq]; exact hj, by rw [stepRow_zero ceq, set_same hjA]⟩ (fun m σ H' _ ⟨_, _, _, _, _, _, _, h1, h2, _⟩ => ⟨SqL.of h2, SqT.of h1⟩) (fun m x σ H3 H4 hm hP hy => ?_) fun σ H' hP => ?_
        · obtain ⟨s4, s5, T, rfl, e4, im4, db4, hr4, hk4, hj4, ab4⟩ := hP
          obtain ⟨T2, x1, y1, rfl, hT2, rfl, hx1, hy1⟩ := hy
          have f4 : Ext H3 (upd H3 T2 (.tup [x1, y1])) := Ext.upd hT2
          have tt : upd H3 T2 (.tup [x1, y1]) T2 = some (.tup [x1, y1]) := upd_same
          generalize upd H3 T2 (.tup [x1, y1]) = H5 at f4 tt
          obtain ⟨l, hl, rfl⟩ : ∃ l, ds[m]? = some l ∧ x1 = .ref l := by
            rw [List.getElem?_map] at hx1
            cases hl : ds[m]? with
            | none => rw [hl] at hx1; cases hx1
            | some l => rw [hl] at hx1; exact ⟨l, rfl, (Option.some.inj hx1).symm⟩
          obtain ⟨o, ho, hot⟩ := prd_get hpu hy1
          have hot5 := hot.imm (im4.trans (Imm.of f4))
          obtain ⟨c, hc⟩ : ∃ c, cs[m]? = some c := ⟨_, List.getElem?_eq_getElem (by rw [c5]; exact hm)⟩
          have hsucc := stepRow_succ ceq hc ho
          have hat : (stepRow m cs e.th)[m]? = some c := stepRow_at hc (by rw [ok.five]; exact hm)
          have db5 := db4.ext f4
          have jlt : j < (absD T1).length := (List.getElem?_eq_some_iff.mp hjA).1
          refine ⟨T2, _, rfl, SqT.of tt, rfl, _, _, rfl, _, _, rfl, rfl, ?_⟩
          refine ⟨_, rfl, rfl, _, rfl, ?_⟩
          rcases oth_cases hot5 with ⟨hz0, ho0⟩ | ⟨th, ho0, hth, hzn⟩
          · subst ho0
            have : addT c none = c := rfl
            rw [this, set_same hat] at hsucc
            exact if_ndecF hz0 (next_ok ⟨_, _, T, rfl, e4.trans f4, im4.trans (Imm.of f4), db5, f4 _ _ hr4, f4 _ _ hk4, by rw [hsucc]; exact hj4, by rw [hsucc]; exact ab4⟩)
          · subst ho0
            have thok := ok.each m th ho
            refine if_ndecT hzn ⟨_, rfl, _, rfl, _, rfl, y1, th, rfl, hth, ⟨m, thok⟩, fun kv H6 e6 mk => ⟨l, rfl, ?_⟩⟩
            have db6 := db5.ext e6
            obtain ⟨kvs6, hd6, ht6⟩ := db6.dic
            obtain ⟨kv6, _, _, hrow6⟩ := prd_at ht6 hj4
            have hma : MapAt P w m H6 l c := hrow6.map m l c hl hat
            have cok : ∀ t ∈ c, Th.ok m t := fun t ht => tok1.okT uo rowMem hc ht
            have clen : c.length < sizeLine := Nat.lt_of_le_of_lt (tok1.lenT uo rowMem hc) (by decide)
            refine map_put (K := K) hma thok cok clen mk fun H7 o7 e7 hm7 => ?_
            subst e7
            have ism : IsM P w H6 l := hma.obj
            have db7 := db6.put ism hj4 hl hm7
            have hrl : r ≠ l := fun z => by
              obtain ⟨o2, h1, h2⟩ := ism
              have := e6 _ _ (f4 _ _ hr4)
              rw [z, h1] at this
              cases this
              rcases h2 with ⟨kvs, z⟩ | ⟨us, z⟩ <;> cases z
            have hkl : ka ≠ l := ism.ne (e6 _ _ (f4 _ _ hk4)) (.inl ⟨_, rfl⟩)
            have hlB : H l = none := db6.fl l (mem_dicts (List.mem_of_getElem? hj4) (List.mem_of_getElem? hl))
            refine ⟨_, _, T.set j (e.key, (ka, ds, (stepRow m cs e.th).set m (addT c (some th)))), rfl, Ext.mut ((e4.trans f4).trans e6) hlB, ((im4.trans (Imm.of f4)).trans (Imm.of e6)).trans ism.imm, db7, ?_, ?_, ?_, ?_⟩
            · rw [upd_ne hrl]; exact e6 _ _ (f4 _ _ hr4)
            · rw [upd_ne hkl]; exact e6 _ _ (f4 _ _ hk4)
            · rw [hsucc]
              exact List.getElem?_set_self (List.getElem?_eq_some_iff.mp hj4).1
            · rw [absD_set, ab4, List.set_set, hsucc]
        · obtain ⟨s4, s5, T, rfl, e4, im4, db4, hr4, hk4, hj4, ab4⟩ := hP
          refine ⟨_, _, _, _, T, rfl, e4, db4, ?_⟩
          rw [show (5 : Nat) = e.th.length from ok.five.symm, stepRow_all] at ab4
          rw [ab4, fold_take he, ← ab, hab]
          unfold putT
          have nd := tok1.nod
          rw [hab] at nd hjA
          exact (map_set (k := e.key) (f := fun r => (r.1, addRow r.2 e.th)) nd hjA rfl).symm
    · subst hσ
      rw [prd_len hp, List.take_length] at ab
      exact ⟨_, rfl, hq d H' e hd (by have := db.due; rw [ab] at this; exact this)⟩
end
end TW
set_option Elab.async false
set_option linter.all false
set_option maxRecDepth 100000
set_option maxHeartbeats 4000000
namespace TW
open PySem PySem.Spec PyProof.Rows L2 LamX
open PySem.W (AllAlike Sortable dataLe alike)
/-! ### tables that hold the same -/
structure Same (t t' : ATab) : Prop where
  key : ∀ k, hasK t k = hasK t' k
  th : ∀ k i, (look t k i).Perm (look t' k i)
theorem Same.refl (t : ATab) : Same t t := ⟨fun _ => rfl, fun _ _ => .refl _⟩
theorem Same.symm {t t' : ATab} (h : Same t t') : Same t' t := ⟨fun k => (h.key k).symm, fun k i => (h.th k i).symm⟩
theorem Same.trans {t t' t'' : ATab} (h : Same t t') (h' : Same t' t'') : Same t t'' := ⟨fun k => (h.key k).trans (h'.key k), fun k i => (h.th k i).trans (h'.th k i)⟩
theorem mem_keys {t : ATab} {k : LKey} : k ∈ t.map (·.1) ↔ hasK t k = true := by
  rw [hasK_iff, List.mem_map]
theorem Same.keys {t t' : ATab} {U : List Ent} (h : Same t t') (o : TabOk U t) (o' : TabOk U t') : (t.map (·.1)).Perm (t'.map (·.1)) := by
  refine (List.perm_ext_iff_of_nodup o.nod o'.nod).mpr fun k => ?_
  rw [mem_keys, mem_keys, h.key k]
theorem Same.len {t t' : ATab} {U : List Ent} (h : Same t t') (o : TabOk U t) (o' : TabOk U t') : t.length = t'.length := by
  have := (h.keys o o').length_eq
  rwa [List.length_map, List.length_map] at this
theorem Same.sortK {t t' : ATab} {U : List Ent} (h : Same t t') (o : TabOk U t) (o' : TabOk U t') : sortK (t.map (·.1)) = sortK (t'.map (·.1)) := sortK_perm (h.keys o o')
theorem fld_ok {U : List Ent} {t : ATab} (tok : TabOk U t) (uo : UOk U) {k : LKey} {i : Nat} : ∀ th ∈ look t k i, Th.ok i th := fun th h => look_ok tok uo h
theorem Same.sortTh {t t' : ATab} {U : List Ent} (h : Same t t') (o : TabOk U t) (uo : UOk U) (k : LKey) (i : Nat) : sortTh (look t k i) = sortTh (look t' k i) := sortTh_perm (h.th k i) (fld_ok o uo)
theorem sure_perm {l l' : List Th} (h : l.Perm l') : sureOf l = sureOf l' := by
  match l, h with
  | [], h => rw [List.nil_perm.mp h]
  | [x], h => rw [List.singleton_perm.mp h]
  | a :: b :: l, h =>
    have hl := h.length_eq
    match l', hl with
    | a' :: b' :: l', _ => rfl
theorem Same.ents {t t' : ATab} {U : List Ent} (h : Same t t') (o : TabOk U t) (o' : TabOk U t') : entsOf t = entsOf t' := by
  unfold entsOf
  rw [h.sortK o o']
  refine List.map_congr_left fun k _ => ?_
  unfold entOf
  congr 1
  exact List.map_congr_left fun i _ => sure_perm (h.th k i)
theorem Same.eqL {t t' : ATab} {U : List Ent} (h : Same t t') (o : TabOk U t) (o' : TabOk U t') (uo : UOk U) : eqL t t' = true := by
  unfold TW.eqL
  rw [decide_eq_true (h.sortK o o'), Bool.true_and, List.all_eq_true]
  intro k _
  unfold rowEq
  rw [List.all_eq_true]
  intro i _
  exact decide_eq_true (h.sortTh o uo k i)
theorem Same.strL {t t' : ATab} {U : List Ent} (h : Same t t') (o : TabOk U t) (o' : TabOk U t') : strL t = strL t' := by
  unfold TW.strL
  rw [h.ents o o']
end TW
set_option Elab.async false
set_option linter.all false
set_option maxRecDepth 100000
set_option maxHeartbeats 4000000
namespace TW
open PySem PySem.Spec PyProof.Rows L2
/-! ### what a table holds, by its entries -/
abbrev Rows := List (List Th)
def row0 : Rows := [[], [], [], [], []]
theorem lookR_cons (r : LKey × Rows) (t : ATab) (k : LKey) : lookR (r :: t) k = if r.1 = k then some r.2 else lookR t k := by
  unfold lookR
  by_cases h : r.1 = k
  · rw [List.find?_cons_of_pos (by simpa using h), if_pos h]; rfl
  · rw [List.find?_cons_of_neg (by simpa using h), if_neg h]
theorem lookR_map {key : LKey} {f : Rows → Rows} (k : LKey) : ∀ t : ATab, lookR (t.map fun r => if r.1 = key then (r.1, f r.2) else r) k = if k = key then (lookR t k).map f else lookR t k
  | [] => by
    show (none : Option Rows) = if k = key then none else none
    split <;> rfl
  | r :: t => by
    rw [List.map_cons, lookR_cons, lookR_cons, lookR_map k t]
    by_cases h : r.1 = key
    · rw [if_pos h]
      by_cases h2 : r.1 = k
      · rw [if_pos h2, if_pos h2, if_pos (h2.symm.trans h)]; rfl
      · rw [if_neg h2, if_neg h2]
    · rw [if_neg h]
      by_cases h2 : r.1 = k
      · rw [if_pos h2, if_pos h2, if_neg (fun z => h (h2.trans z))]
      · rw [if_neg h2, if_neg h2]
theorem hasK_lookR {k : LKey} : ∀ t : ATab, hasK t k = (lookR t k).isSome
  | [] => rfl
  | r :: t => by
    rw [lookR_cons]
    show (decide (r.1 = k) || hasK t k) = _
    rw [hasK_lookR t]
    by_cases h : r.1 = k
    · rw [if_pos h, decide_eq_true h]; rfl
    · rw [if_neg h, decide_eq_false h]; rfl
theorem lookR_snoc {k key : LKey} {x : Rows} : ∀ t : ATab, lookR t key = none → lookR (t ++ [(key, x)]) k = if k = key then some x else lookR t k
  | [], _ => by
    rw [List.nil_append, lookR_cons]
    by_cases h : key = k
    · rw [if_pos h, if_pos h.symm]
    · rw [if_neg h, if_neg (fun z => h z.symm)]
  | r :: t, h => by
    rw [lookR_cons] at h
    by_cases h2 : r.1 = key
    · rw [if_pos h2] at h; cases h
    · rw [if_neg h2] at h
      rw [List.cons_append, lookR_cons, lookR_cons, lookR_snoc t h]
      by_cases h3 : r.1 = k
      · rw [if_pos h3, if_pos h3, if_neg (fun z => h2 (h3.trans z))]
      · rw [if_neg h3, if_neg h3]
theorem lookR_put (t : ATab) (e : Ent) (k : LKey) : lookR (putT t e) k = if k = e.key then some (addRow ((lookR t k).getD row0) e.th) else lookR t k := by
  unfold putT
  rw [lookR_map (f := fun r => addRow r e.th)]
  have hw : lookR (withK t e.key) k = if k = e.key then some ((lookR t k).getD row0) else lookR t k := by
    unfold withK
    cases h : hasK t e.key with
    | true =>
      rw [if_pos rfl]
      by_cases hk : k = e.key
      · rw [if_pos hk]
        rw [hasK_lookR, ← hk] at h
        obtain ⟨x, hx⟩ := Option.isSome_iff_exists.mp h
        rw [hx]; rfl
      · rw [if_neg hk]
    | false =>
      rw [if_neg (fun z => nomatch z)]
      have hn : lookR t e.key = none := by
        rw [hasK_lookR] at h
        cases q : lookR t e.key with
        | none => rfl
        | some x => rw [q] at h; cases h
      rw [lookR_snoc t hn]
      by_cases hk : k = e.key
      · rw [if_pos hk, if_pos hk, hk, hn]; rfl
      · rw [if_neg hk, if_neg hk]
  rw [hw]
  by_cases hk : k = e.key
  · rw [if_pos hk, if_pos hk, if_pos hk]; rfl
  · rw [if_neg hk, if_neg hk, if_neg hk]
/-- what t holds comes from es -/
structure Of (t : ATab) (es : List Ent) : Prop where
  key : ∀ k, hasK t k = true ↔ ∃ e ∈ es, e.key = k
  th : ∀ k i th, th ∈ look t k i ↔ ∃ e ∈ es, e.key = k ∧ e.th[i]? = some (some th)
  five : ∀ k r, lookR t k = some r → r.length = 5
theorem of_nil : Of [] [] := ⟨fun k => by simp [hasK], fun k i th => by simp [look, lookR], fun k r h => by simp [lookR] at h⟩
theorem mem_addT {ths : List Th} {o : Option Th} {th : Th} : th ∈ addT ths o ↔ th ∈ ths ∨ o = some th := by
  cases o with
  | none => exact ⟨.inl, fun h => h.elim id fun z => nomatch z⟩
  | some x =>
    by_cases h : x ∈ ths
    · rw [show addT ths (some x) = ths from if_pos h]
      exact ⟨.inl, fun q => q.elim id fun z => by cases z; exact h⟩
    · rw [show addT ths (some x) = ths ++ [x] from if_neg h, List.mem_append, List.mem_singleton]
      exact ⟨fun q => q.elim .inl fun z => .inr (by rw [z]), fun q => q.elim .inl fun z => .inr (Option.some.inj z).symm⟩
theorem of_put {t : ATab} {es : List Ent} {e : Ent} (h : Of t es) (h5 : e.th.length = 5) : Of (putT t e) (es ++ [e]) := by
  refine ⟨fun k => ?_, fun k i th => ?_, fun k r hr => ?_⟩
  · rw [hasK_lookR, lookR_put]
    by_cases hk : k = e.key
    · rw [if_pos hk]
      exact ⟨fun _ => ⟨e, by simp, hk.symm⟩, fun _ => rfl⟩
    · rw [if_neg hk, ← hasK_lookR, h.key k]
      constructor
      · rintro ⟨x, hx, q⟩; exact ⟨x, List.mem_append_left _ hx, q⟩
      · rintro ⟨x, hx, q⟩
        rcases List.mem_append.mp hx with hx | hx
        · exact ⟨x, hx, q⟩
        · rw [List.mem_singleton.mp hx] at q; exact absurd q.symm hk
  · by_cases hk : k = e.key
    · have e1 : look (putT t e) k i = ((addRow ((lookR t k).getD row0) e.th)[i]?).getD [] := by
        unfold look
        rw [lookR_put, if_pos hk]; rfl
      have l5 : ((lookR t k).getD row0).length = 5 := by
        cases q : lookR t k with
        | none => rfl
        | some r => exact h.five k r q
      have e2 : look t k i = (((lookR t k).getD row0)[i]?).getD [] := by
        unfold look
        cases q : lookR t k with
        | none =>
          show ([] : List Th) = (row0[i]?).getD []
          rcases i with _ | _ | _ | _ | _ | i <;> rfl
        | some r => rfl
      have hth := h.th k i th
      rw [e2] at hth
      rw [e1]
      unfold addRow
      rw [List.getElem?_zipWith]
      by_cases hi : i < 5
      · obtain ⟨c, hc⟩ : ∃ c, ((lookR t k).getD row0)[i]? = some c := ⟨_, List.getElem?_eq_getElem (by rw [l5]; exact hi)⟩
        obtain ⟨o, ho⟩ : ∃ o, e.th[i]? = some o := ⟨_, List.getElem?_eq_getElem (by rw [h5]; exact hi)⟩
        rw [hc] at hth ⊢
        rw [ho]
        show th ∈ addT c o ↔ _
        rw [mem_addT, show (th ∈ c) ↔ _ from hth]
        constructor
        · rintro (⟨x, hx, q⟩ | q)
          · exact ⟨x, List.mem_append_left _ hx, q⟩
          · exact ⟨e, by simp, hk.symm, by rw [ho, q]⟩
        · rintro ⟨x, hx, q1, q2⟩
          rcases List.mem_append.mp hx with hx | hx
          · exact .inl ⟨x, hx, q1, q2⟩
          · rw [List.mem_singleton.mp hx, ho] at q2
            exact .inr (Option.some.inj q2)
      · have hn : e.th[i]? = none := List.getElem?_eq_none (by omega)
        have hc : ((lookR t k).getD row0)[i]? = none := List.getElem?_eq_none (by omega)
        rw [hc] at hth ⊢
        show th ∈ ([] : List Th) ↔ _
        constructor
        · intro z; cases z
        · rintro ⟨x, hx, q1, q2⟩
          rcases List.mem_append.mp hx with hx | hx
          · exact hth.mpr ⟨x, hx, q1, q2⟩
          · rw [List.mem_singleton.mp hx, hn] at q2; cases q2
    · have e1 : look (putT t e) k i = look t k i := by
        unfold look
        rw [lookR_put, if_neg hk]
      rw [e1, h.th k i th]
      constructor
      · rintro ⟨x, hx, q⟩; exact ⟨x, List.mem_append_left _ hx, q⟩
      · rintro ⟨x, hx, q⟩
        rcases List.mem_append.mp hx with hx | hx
        · exact ⟨x, hx, q⟩
        · rw [List.mem_singleton.mp hx] at q; exact absurd q.1.symm hk
  · rw [lookR_put] at hr
    by_cases hk : k = e.key
    · rw [if_pos hk] at hr
      have l5 : ((lookR t k).getD row0).length = 5 := by
        cases q : lookR t k with
        | none => rfl
        | some r => exact h.five k r q
      rw [← Option.some.inj hr]
      unfold addRow
      rw [List.length_zipWith, l5, h5]; rfl
    · rw [if_neg hk] at hr
      exact h.five k r hr
theorem of_fold : ∀ {es' es : List Ent} {t : ATab}, Of t es → (∀ e ∈ es', e.th.length = 5) → Of (es'.foldl putT t) (es ++ es')
  | [], es, t, h, _ => by rw [List.append_nil]; exact h
  | e :: es', es, t, h, h5 => by
    have := of_fold (es' := es') (of_put h (h5 e List.mem_cons_self)) fun x hx => h5 x (List.mem_cons_of_mem _ hx)
    rw [List.append_assoc] at this
    exact this
theorem of_tab {es : List Ent} (h5 : ∀ e ∈ es, e.th.length = 5) : Of (tabOf es) es := of_fold of_nil h5
theorem Of.mem {t : ATab} {es es' : List Ent} (h : Of t es) (q : ∀ e, e ∈ es ↔ e ∈ es') : Of t es' :=
  ⟨fun k => (h.key k).trans ⟨fun ⟨e, a, b⟩ => ⟨e, (q e).mp a, b⟩, fun ⟨e, a, b⟩ => ⟨e, (q e).mpr a, b⟩⟩, fun k i th => (h.th k i th).trans ⟨fun ⟨e, a, b⟩ => ⟨e, (q e).mp a, b⟩, fun ⟨e, a, b⟩ => ⟨e, (q e).mpr a, b⟩⟩, h.five⟩
theorem look_nodup {U : List Ent} {t : ATab} (o : TabOk U t) (k : LKey) (i : Nat) : (look t k i).Nodup := by
  unfold look lookR
  cases hf : t.find? fun r => decide (r.1 = k) with
  | none => exact List.nodup_nil
  | some r =>
    have hr := List.mem_of_find?_eq_some hf
    show ((r.2[i]?).getD []).Nodup
    cases hi : r.2[i]? with
    | none => exact List.nodup_nil
    | some ths => exact o.nodT r hr ths (List.mem_of_getElem? hi)
theorem Of.same {U : List Ent} {t t' : ATab} {es : List Ent} (h : Of t es) (h' : Of t' es) (o : TabOk U t) (o' : TabOk U t') : Same t t' :=
  ⟨fun k => by rw [Bool.eq_iff_iff, h.key k, h'.key k], fun k i => (List.perm_ext_iff_of_nodup (look_nodup o k i) (look_nodup o' k i)).mpr fun th => by rw [h.th k i th, h'.th k i th]⟩
theorem piece5 {t : ATab} {e : Ent} (h : e ∈ piecesOf t) : e.th.length = 5 := by
  obtain ⟨r, _, h⟩ := List.mem_flatMap.mp h
  rcases List.mem_cons.mp h with rfl | h
  · rfl
  · obtain ⟨i, _, h⟩ := List.mem_flatMap.mp h
    obtain ⟨th, _, rfl⟩ := List.mem_map.mp h
    show ((List.range 5).map _).length = 5
    rw [List.length_map, List.length_range]
end TW
set_option Elab.async false
set_option linter.all false
set_option maxRecDepth 100000
set_option maxHeartbeats 4000000
namespace TW
open PySem PySem.Spec PyProof.Rows L2
theorem aloneE_at {k : LKey} {j i : Nat} {x th : Th} : (aloneE k j x).th[i]? = some (some th) ↔ i = j ∧ i < 5 ∧ x = th := by
  show ((List.range 5).map fun m => if m = j then some x else none)[i]? = some (some th) ↔ _
  by_cases hi : i < 5
  · rw [List.getElem?_map, List.getElem?_range hi]
    show some (if i = j then some x else none) = some (some th) ↔ _
    by_cases h : i = j
    · rw [if_pos h]
      exact ⟨fun q => ⟨h, hi, Option.some.inj (Option.some.inj q)⟩, fun q => by rw [q.2.2]⟩
    · rw [if_neg h]
      exact ⟨fun q => (by cases q), fun q => absurd q.1 h⟩
  · rw [List.getElem?_eq_none (by rw [List.length_map, List.length_range]; omega)]
    exact ⟨fun q => (by cases q), fun q => absurd q.2.1 hi⟩
theorem noneE_at {k : LKey} {i : Nat} {th : Th} : ¬ (noneE k).th[i]? = some (some th) := fun h => by
  have h : (List.replicate 5 (none : Option Th))[i]? = some (some th) := h
  rw [List.getElem?_replicate] at h
  split at h <;> cases h
theorem pieces_key {t : ATab} {k : LKey} : (∃ e ∈ piecesOf t, e.key = k) ↔ hasK t k = true := by
  rw [hasK_iff]
  constructor
  · rintro ⟨e, he, hk⟩
    obtain ⟨r, hr, h⟩ := List.mem_flatMap.mp he
    refine ⟨r, hr, ?_⟩
    rcases List.mem_cons.mp h with rfl | h
    · exact hk
    · obtain ⟨i, _, h⟩ := List.mem_flatMap.mp h
      obtain ⟨th, _, rfl⟩ := List.mem_map.mp h
      exact hk
  · rintro ⟨r, hr, hk⟩
    exact ⟨noneE r.1, List.mem_flatMap.mpr ⟨r, hr, List.mem_cons_self⟩, hk⟩
theorem pieces_th {U : List Ent} {t : ATab} (o : TabOk U t) {k : LKey} {i : Nat} {th : Th} : (∃ e ∈ piecesOf t, e.key = k ∧ e.th[i]? = some (some th)) ↔ th ∈ look t k i := by
  constructor
  · rintro ⟨e, he, hk, hth⟩
    obtain ⟨r, hr, h⟩ := List.mem_flatMap.mp he
    rcases List.mem_cons.mp h with rfl | h
    · exact absurd hth noneE_at
    · obtain ⟨j, hj, h⟩ := List.mem_flatMap.mp h
      obtain ⟨x, hx, rfl⟩ := List.mem_map.mp h
      obtain ⟨rfl, hi, rfl⟩ := aloneE_at.mp hth
      have hk : r.1 = k := hk
      subst hk
      cases hc : r.2[i]? with
      | none => rw [hc] at hx; cases hx
      | some ths =>
        rw [hc] at hx
        rw [look_of o.nod hr hc]
        exact hx
  · intro h
    unfold look lookR at h
    cases hf : t.find? fun r => decide (r.1 = k) with
    | none => rw [hf] at h; cases h
    | some r =>
      rw [hf] at h
      have hr := List.mem_of_find?_eq_some hf
      have hk : r.1 = k := by simpa using List.find?_some hf
      have h : th ∈ (r.2[i]?).getD [] := h
      have hi : i < 5 := by
        cases hc : r.2[i]? with
        | none => rw [hc] at h; cases h
        | some ths => have := (List.getElem?_eq_some_iff.mp hc).1; rwa [o.five r hr] at this
      refine ⟨aloneE r.1 i th, List.mem_flatMap.mpr ⟨r, hr, List.mem_cons_of_mem _ (List.mem_flatMap.mpr ⟨i, List.mem_range.mpr hi, List.mem_map.mpr ⟨th, h, rfl⟩⟩)⟩, hk, aloneE_at.mpr ⟨rfl, hi, rfl⟩⟩
/-- two listings joined -/
theorem of_join {U : List Ent} {t t' : ATab} {es es' : List Ent} (h : Of t es) (h' : Of t' es') (o : TabOk U t) (o' : TabOk U t') : Of (tabOf (piecesOf t ++ piecesOf t')) (es ++ es') := by
  have q := of_tab (es := piecesOf t ++ piecesOf t') fun e he => by
    rcases List.mem_append.mp he with he | he <;> exact piece5 he
  have ex : ∀ {α : Type} {l l' : List α} {p : α → Prop}, (∃ e ∈ l ++ l', p e) ↔ (∃ e ∈ l, p e) ∨ ∃ e ∈ l', p e := fun {α l l' p} => by
    constructor
    · rintro ⟨e, he, hp⟩
      rcases List.mem_append.mp he with he | he
      · exact .inl ⟨e, he, hp⟩
      · exact .inr ⟨e, he, hp⟩
    · rintro (⟨e, he, hp⟩ | ⟨e, he, hp⟩)
      · exact ⟨e, List.mem_append_left _ he, hp⟩
      · exact ⟨e, List.mem_append_right _ he, hp⟩
  refine ⟨fun k => ?_, fun k i th => ?_, q.five⟩
  · rw [q.key k, ex, ex, pieces_key, pieces_key, h.key k, h'.key k]
  · rw [q.th k i th, ex, ex, pieces_th o, pieces_th o', h.th k i th, h'.th k i th]
theorem tabOk_tab {U es : List Ent} (uo : UOk U) (h : ∀ e ∈ es, e ∈ U) : TabOk U (tabOf es) := tabOk_fold uo tabOk_nil h
theorem tabOk_join {U : List Ent} {t t' : ATab} (uo : UOk U) (o : TabOk U t) (o' : TabOk U t') : TabOk U (tabOf (piecesOf t ++ piecesOf t')) := tabOk_tab uo fun e he => by
  rcases List.mem_append.mp he with he | he
  · exact pieces_mem o uo he
  · exact pieces_mem o' uo he
end TW
set_option Elab.async false
set_option linter.all false
set_option maxRecDepth 100000
set_option maxHeartbeats 4000000
namespace TW
open PySem PySem.Spec PyProof.Rows L2 LamX
open PySem.W (AllAlike Sortable dataLe alike)
section
variable {P : Program} {w : World} {K : PySem.W.Frag} {H : Hp} {d : Addr} {ms : List Th} {i : Nat}
theorem vd_zip : ∀ {bs : List VD} {ms : List Th}, Paired (fun (p : VD) (th : Th) => MkAt H p.1 th) bs ms → bs.map Prod.snd = ms.map Th.mark → bs = ((bs.map Prod.fst).zip ms).map fun p => (p.1, p.2.mark)
  | _, _, .nil, _ => rfl
  | _, _, .cons (a := b) (b := m) (l₁ := bs) (l₂ := ms) a r, h => by
    rw [List.map_cons, List.map_cons] at h
    injection h with h1 h2
    show b :: bs = (b.1, m.mark) :: ((bs.map Prod.fst).zip ms).map fun p => (p.1, p.2.mark)
    rw [← vd_zip r h2, ← h1]
theorem fst_prd : ∀ {bs : List VD} {ms : List Th}, Paired (fun (p : VD) (th : Th) => MkAt H p.1 th) bs ms → Paired (MkAt H) (bs.map Prod.fst) ms
  | _, _, .nil => .nil
  | _, _, .cons a r => .cons a (fst_prd r)
/-- sorted(the dict of a field), list(it) -/
theorem map_sort (h : MapAt P w i H d ms) (ok : ∀ th ∈ ms, Th.ok i th) : ∃ bs, KeysAt P w K H d bs ∧ AllAlike (bs.map Prod.snd) ∧ Sortable (bs.map Prod.snd) ∧ (∀ p ∈ bs, p.2.depth ≤ 40) ∧ Paired (MkAt H) (srt bs) (sortTh ms) ∧ Paired (MkAt H) (bs.map Prod.fst) ms := by
  obtain ⟨bs, k1, k2, k3⟩ := map_keys (K := K) h ok
  refine ⟨bs, k1, by rw [k2]; exact all_th ok, by rw [k2]; exact sort_ok_th ok, fun p hp => ?_, ?_, fst_prd k3⟩
  · have : p.2 ∈ bs.map Prod.snd := List.mem_map.mpr ⟨p, hp, rfl⟩
    rw [k2] at this
    obtain ⟨th, _, e⟩ := List.mem_map.mp this
    rw [← e]
    exact Nat.le_trans (depth_th th) (by decide)
  · rw [vd_zip k3 k2]
    exact srt_prd (fst_prd k3)
theorem alikeAll_th : ∀ {l : List Th}, (∀ th ∈ l, Th.ok i th) → PySem.W.alikeAll (l.map Th.mark) (l.map Th.mark) = true
  | [], _ => by simp [PySem.W.alikeAll]
  | t :: l, o => by
    rw [List.map_cons, PySem.W.alikeAll, alike_th (o t List.mem_cons_self) (o t List.mem_cons_self), alikeAll_th fun x hx => o x (List.mem_cons_of_mem _ hx)]
    rfl
theorem eqv_self {x : PyData} (h : alike x x = true) : PyData.eqv x x = true := lt_eqv h (lex_irrefl (O := itemOrd) _) (lex_irrefl (O := itemOrd) _)
theorem marks_self {l : List Th} (o : ∀ th ∈ l, Th.ok i th) : PyData.eqv (.list (l.map Th.mark)) (.list (l.map Th.mark)) = true := eqv_self (by rw [alike]; exact alikeAll_th o)
theorem marks_shaped {l : List Th} (o : ∀ th ∈ l, Th.ok i th) : SeqAt.shaped (.list (l.map Th.mark)) = true := shaped_list (c := 2) (fun th h => canLay_th (o th h)) (fun th _ => depth_th th) (by decide)
theorem marks_dp {vs : List V} {l : List Th} {a : Addr} (h : SqL K H a vs) (p : Paired (MkAt H) vs l) : Dp K H (.ref a) (.list (l.map Th.mark)) := .lst h (dpAll_of (fun v th q => MkAt.dp q) p)
end
end TW
set_option Elab.async false
set_option linter.all false
set_option maxRecDepth 100000
set_option maxHeartbeats 4000000
namespace TW
open PySem PySem.Spec PyProof.Rows L2
section
variable {P : Program} {w : World} {K : PySem.W.Frag} {mg : Str → Option Value} {base : Heap}
open LamX NdefX

def sp_law_told_right (K : PySem.W.Frag) (P : Program) (w : World) : Sp := fun vs H Q _ => ∃ (p d : Addr) (t t' : ATab) (U : List Ent), vs = [.ref p, .ref d] ∧ LisU K H p t ∧ DueAt P w H d t' ∧ UOk U ∧ TabOk U t ∧ TabOk U t' ∧ Same t t' ∧ Tabs (TT K) H ∧ ∀ H', ExtN H H' → Tabs (TT K) H' → Q (.bl true) H'
theorem tabs_upd {K : PySem.W.Frag} {H : Hp} {d : Addr} {o o' : HO} (hd : H d = some o) (h1 : ∀ ps, o ≠ .tbl ps) (h2 : ∀ c q, o ≠ CodeO c q) (t : Tabs (TT K) H) : Tabs (TT K) (upd H d o') := fun x hx => by
  obtain ⟨ps, a1, a2, a3⟩ := t x hx
  refine ⟨ps, by rw [upd_ne (ne_of a1 hd fun z => h1 _ z.symm)]; exact a1, a2, fun pos cv hc => ?_⟩
  obtain ⟨c, b1, b2⟩ := a3 pos cv hc
  refine ⟨c, b1, ?_⟩
  rw [upd_ne (ne_of b2 hd fun z => h2 _ _ z.symm)]
  exact b2
theorem ok_law_told_right (T : Txt K mg) (TB : TabB base mg (tC' K) (tP K)) : C8.Cal P w K mg base 7 "_law_told_right" (sp_law_told_right K P w) [] := by
  obtain ⟨fd, F⟩ := T.d_law_told_right
  refine cal_of F T.g_law_told_right (fun _ _ _ _ _ _ us hl => match us, hl with | [_, _], _ => rfl) sc_law_told_right (fun vs H Q E h => ?_) fun cdv A outer s H vs Q E hr h => ?_
  · obtain ⟨p, d, t, t', U, rfl, hu1, ⟨kvs, T1, hdic, htab, hT1⟩, uo, tok, tok', same, hTT, hq⟩ := h
    rfl
  · have hu := hu_of hr
    have hu64 := hr.units
    obtain ⟨p, d, t, t', U, rfl, hu1, ⟨kvs, T1, hdic, htab, hT1⟩, uo, tok, tok', same, hTT, hq⟩ := h
    refine ⟨_, (pss_cons (ps_lock (ps_for PassesOwn.never rfl (pi_itemsT (pv 1)) (pg_tup (by rfl) (pgs_cons (pg_name (i := 2) sc_law_told_right.nd rfl (by first | exact Or.inl rfl | exact Or.inr rfl)) (pgs_cons (pg_name (i := 3) sc_law_told_right.nd rfl (by first | exact Or.inl rfl | exact Or.inr rfl)) pgs_nil)))
    (pss_one (ps_for PassesOwn.never rfl (pi_zipM true (by rfl) T.f_zip (pa_cons (pe_c0 (ok_law_fields T) hr (by decide) rfl) (pa_cons (pv 3) pa_nil))) (pg_tup (by rfl) (pgs_cons (pg_name (i := 4) sc_law_told_right.nd rfl (by first | exact Or.inl rfl | exact Or.inr rfl)) (pgs_cons (pg_name (i := 5) sc_law_told_right.nd rfl (by first | exact Or.inl rfl | exact Or.inr rfl)) pgs_nil)))
    (pss_cons (ps_set (i := 6) sc_law_told_right.nd rfl (by first | exact Or.inl rfl | exact Or.inr rfl) (C8.pe_mt (ok_Listing_told T TB) hr (by decide) (pv 0) (pa_cons (pe_ix ix_tup (pv 2) pe_int (fun _ _ => rfl)) (pa_cons (pe_ix ix_tup (pv 2) pe_int (fun _ _ => rfl)) (pa_cons (pv 4) pa_nil)))))
    (pss_cons (ps_if (PW.pt (pw_or (pt_not (pt_val (pe_callB call_isi (by rfl) T.f_isinstance (by decide +kernel) (pa_cons (pv 6) (pa_cons (pe_bltn (v := .ty "list") (u := .type "list") (by rfl) T.f_list (by decide +kernel) rfl) pa_nil))))) (pw_or1 (pt_cmpR (op_neD hu64) (pe_lc (own := [("_law_thing", 7)]) (by rfl) sc_law_told_right.nd (pi_list (pv 6)) (blkOk_by (N := N_law_told_right) (sc := defScope s_law_told_right) (by decide +kernel)) (fun _ _ _ _ _ => (pg_name (i := 7) sc_law_told_right.nd rfl (by first | exact Or.inl rfl | exact Or.inr rfl))) (fun _ _ _ _ _ => by exact pts_nil) (fun _ _ _ _ _ => by exact (C8.pe_c (ok_law_mark T) hr (by decide) rfl (pa_cons (pv 7) pa_nil)))) (pe_callB (cr_sortK rfl hu64) (by rfl) T.f_sorted (by decide +kernel) (pa_cons (pv 5) pa_nil)) (nomark _))))) (pss_one (ps_ret pe_bl)) pss_nil)
    (pss_one (ps_for PassesOwn.never rfl (pi_list (pv 6)) (pg_name (i := 7) sc_law_told_right.nd rfl (by first | exact Or.inl rfl | exact Or.inr rfl))
    (pss_one (ps_if (PW.pt (pw_or (pt_cmpR op_ne (pe_callB call_isi (by rfl) T.f_isinstance (by decide +kernel) (pa_cons (pv 7) (pa_cons (pe_glob (v := .ref (He.ga K "Day")) rfl T.g_Day rfl) pa_nil))) (pe_cmpR op_eq (pv 4) pe_str (nomark _)) (nomark _)) (pw_or1 (pt_cmpR op_ne (pe_callB call_isi (by rfl) T.f_isinstance (by decide +kernel) (pa_cons (pv 7) (pa_cons (pe_glob (v := .ref (He.ga K "Length")) rfl T.g_Length rfl) pa_nil))) (pe_cmpR op_eq (pv 4) pe_str (nomark _)) (nomark _))))) (pss_one (ps_ret pe_bl)) pss_nil))))))))))
    (pss_one (ps_ret (pe_cmpR op_eq (pe_callB (cr_lenI (ok_Listing_len T) (hr.mono (by decide))) (by rfl) T.f_len (by decide +kernel) (pa_cons (pv 0) pa_nil)) (pe_callB call_len_dT (by rfl) T.f_len (by decide +kernel) (pa_cons (pv 1) pa_nil)) (nomark _))))), ?_⟩
    subst hT1
    obtain ⟨dx, dl, kvsL, TL, hins, hdicL, htabL, htL⟩ := id hu1
    refine ⟨d, .dT kvs, hdic, True.intro, fun od => ?_⟩
    have lB : LisAt K (upd H d (.frz od (.dT kvs))) p t := hu1.at_.frz hdic
    have hinsB : upd H d (.frz od (.dT kvs)) p = some (.ins (cListing K) dx [("things", .ref dl)]) := by rw [upd_ne (ne_of hins hdic fun z => nomatch z)]; exact hins
    have hTB : Tabs (TT K) (upd H d (.frz od (.dT kvs))) := tabs_upd hdic (fun _ z => nomatch z) (fun _ _ z => nomatch z) hTT
    have hfz : ∀ ps : Array Value, HO.frz od (.dT kvs) ≠ .tbl ps := fun _ z => nomatch z
    have hdd : ∀ {H'}, ExtN (upd H d (.frz od (.dT kvs))) H' → H' d = some (.frz od (.dT kvs)) := fun e => e _ _ upd_same hfz
    have htabB : ∀ {H'}, ExtN (upd H d (.frz od (.dT kvs))) H' → DTabAt P w H' kvs T1 := fun e => (htab.extD (ExtD.upd hdic)).extD (ExtD.ofN e)
    refine ⟨_, rfl, d, od, kvs, rfl, upd_same, ?_⟩
    refine for_src src_itemsT (fun i σ H' => (∃ s2 s3 s4 s5 s6 s7 : Option V, σ = [some (.ref p), some (.ref d), s2, s3, s4, s5, s6, s7]) ∧ ExtN (upd H d (.frz od (.dT kvs))) H' ∧ Tabs (TT K) H') ⟨⟨_, _, _, _, _, _, rfl⟩, ExtN.refl _, hTB⟩ (fun i σ H' _ h => hdd h.2.1) (fun i x σ H3 H4 hi h hy => ?_) fun σ H' h => ?_
    · obtain ⟨T2, b, k0, v, hkv, rfl, hT2, hbk, rfl⟩ := hy
      obtain ⟨⟨s2, s3, s4, s5, s6, s7, rfl⟩, e3, t3⟩ := h
      obtain ⟨⟨key, ka, ds, cs⟩, hT, hk0, hrow3⟩ := prd_get (htabB e3) hkv
      have hk0 : k0 = kkey key := hk0
      subst hk0
      have hv : v = .ref ka := hrow3.ref
      subst hv
      have hmem : (key, cs) ∈ absD T1 := List.mem_map.mpr ⟨_, List.mem_of_getElem? hT, rfl⟩
      have hk' : hasK (absD T1) key = true := hasK_iff.mpr ⟨_, hmem, rfl⟩
      have hk : hasK t key = true := by rw [same.key key]; exact hk'
      have e34 : Ext H3 (upd H3 T2 (.tup [.ref b, .ref ka])) := Ext.upd hT2
      have tT : upd H3 T2 (.tup [.ref b, .ref ka]) T2 = some (.tup [.ref b, .ref ka]) := upd_same
      generalize upd H3 T2 (.tup [.ref b, .ref ka]) = H4 at e34 tT
      have hb4 : H4 b = some (.tup (kvals key)) := e34 _ _ hbk
      have hrow4 := hrow3.extD (ExtD.of e34)
      have e4 := e3.trans (ExtN.of e34)
      have t4 := t3.ext e34
      refine ⟨T2, _, rfl, SqT.of tT, rfl, _, _, rfl, _, _, rfl, rfl, ?_⟩
      refine ⟨rfl, fun fp Hf ef hfp tfp => ⟨_, rfl, fp, ka, _, ds.map V.ref, rfl, SqT.of tfp, SqL.of (ef _ _ hrow4.lst), ?_⟩⟩
      have hrowF := hrow4.extD (ExtD.of ef)
      have eF := e4.trans (ExtN.of ef)
      have hbF := ef _ _ hb4
      have l5 := hrow4.l5
      have c5 := hrow4.c5
      refine for_src (src_zipM (n := 5) rfl (by rw [List.length_map]; exact l5.symm)) (fun m σ H' => (∃ s4 s5 s6 s7 : Option V, σ = [some (.ref p), some (.ref d), some (.ref b), some (.ref ka), s4, s5, s6, s7]) ∧ ExtN Hf H' ∧ Tabs (TT K) H') ⟨⟨_, _, _, _, rfl⟩, ExtN.refl _, t4.ext ef⟩ (fun m σ H' _ h => ⟨SqT.of (h.2.1 _ _ tfp fun _ z => nomatch z), SqL.of (h.2.1 _ _ hrowF.lst fun _ z => nomatch z)⟩) (fun m x σ G1 G2 hm h hy => ?_) fun σ H' h => ?_
      · obtain ⟨T6, x1, y1, rfl, hT6, rfl, hx1, hy1⟩ := hy
        obtain ⟨⟨s4, s5, s6, s7, rfl⟩, g1, u1⟩ := h
        obtain ⟨f, rfl, hf⟩ := fld_str hx1
        obtain ⟨l, hl, rfl⟩ : ∃ l, ds[m]? = some l ∧ y1 = .ref l := by
          rw [List.getElem?_map] at hy1
          cases hl : ds[m]? with
          | none => rw [hl] at hy1; cases hy1
          | some l => rw [hl] at hy1; exact ⟨l, rfl, (Option.some.inj hy1).symm⟩
        obtain ⟨ms, hms⟩ : ∃ ms, cs[m]? = some ms := ⟨_, List.getElem?_eq_getElem (by rw [show cs.length = 5 from c5]; exact hm)⟩
        have hlook : look (absD T1) key m = ms := look_of tok'.nod hmem hms
        have mok : ∀ th ∈ ms, Th.ok m th := fun th h => tok'.okT uo hmem hms h
        have f6 : Ext G1 (upd G1 T6 (.tup [.str f, .ref l])) := Ext.upd hT6
        have tt6 : upd G1 T6 (.tup [.str f, .ref l]) T6 = some (.tup [.str f, .ref l]) := upd_same
        generalize upd G1 T6 (.tup [.str f, .ref l]) = G3 at f6 tt6
        have g3 := g1.trans (ExtN.of f6)
        have u3 := u1.ext f6
        have eB := eF.trans g3
        have hb3 := g3 _ _ hbF fun _ z => nomatch z
        refine ⟨T6, _, rfl, SqT.of tt6, rfl, _, _, rfl, _, _, rfl, rfl, ?_⟩
        refine ⟨_, rfl, p, dx, _, rfl, eB _ _ hinsB (fun _ z => nomatch z), rfl, _, rfl, b, _, 0, _, rfl, rfl, SqT.of hb3, rfl, _, rfl, b, _, 1, _, rfl, rfl, SqT.of hb3, rfl, _, rfl, p, t, key, m, f, U, rfl, lB.extN eB, hf, uo, tok, hk, u3, fun r G4 e4' t4' fr4 ⟨ws, hr4, hp4⟩ => ?_⟩
        refine next_ok ?_
        dsimp only
        have hsame : sortTh (look t key m) = sortTh ms := by rw [same.sortTh tok uo key m, hlook]
        have lok : ∀ th ∈ sortTh (look t key m), Th.ok m th := fun th h => look_ok tok uo (List.mem_mergeSort.mp h)
        refine seq_cut (fun σ H' => (∃ s7 : Option V, σ = [some (.ref p), some (.ref d), some (.ref b), some (.ref ka), some (.str f), some (.ref l), some (.ref r), s7]) ∧ Ext G4 H') (fun N hN => ?_) (fun σ H' hP => ?_)
        · refine ⟨_, rfl, ⟨_, _, _, _, _, rfl, .ty "list", .base (.lst hr4), T.kit 4 rfl, true, rfl, iteF ?_⟩⟩
          refine ⟨_, rfl, r, rfl, ⟨ws, SqL.of hr4⟩, fun D hD => ?_⟩
          have wl : ws.length ≤ sizeLine := by
            rw [prd_len hp4, hsame]
            unfold sortTh
            rw [List.length_mergeSort]
            exact Nat.le_trans (tok'.lenT uo hmem hms) (by decide)
          refine lc_map (src_list (xs := ws)) (fun _ => False) (fun j z H' => ∃ th, (sortTh (look t key m))[j]? = some th ∧ MkAt H' z th) (fun _ _ => True) hD (fun z => z) wl (fun j z H H' im ⟨th, h1, h2⟩ => ⟨th, h1, h2.imm im⟩) (fun _ _ _ h => h) True.intro (fun j H' _ k _ => SqL.of (Kp.ext k _ _ hr4)) (fun _ _ _ _ k => Imm.of (Kp.ext k)) (fun j z H8 H9 hj kp _ hy Q' qq => ?_) fun M1 zs kp hD1 hl1 hr1 _ => ?_
          · obtain ⟨rfl, hz⟩ := hy
            obtain ⟨th, hth, hat⟩ := prd_get hp4 hz
            exact ⟨rfl, _, rfl, z, th, rfl, hat.imm (Imm.of (Kp.ext kp)), ⟨m, lok th (List.mem_of_getElem? hth)⟩, fun kv H' e' mk => qq _ _ (Kp.of e') ⟨th, hth, mk⟩ True.intro⟩
          · have eM := Kp.ext kp
            have pz : Paired (MkAt M1) zs (sortTh (look t key m)) := prd_ix (by rw [hl1, prd_len hp4]) fun j z th h1 h2 => by
              obtain ⟨th', h3, h4⟩ := hr1 j z h1
              rw [h2] at h3
              cases h3
              exact h4
            have hma : MapAt P w m M1 l ms := ((hrowF.map m l ms hl hms).extN (g3.trans e4')).ext eM
            obtain ⟨bs, k1, k2, k3, k4, k5, _⟩ := map_sort (K := K) hma mok
            refine ⟨_, rfl, l, bs, rfl, k1, k2, k3, k4, fun q hq' => ?_⟩
            have eq1 : Ext M1 (upd M1 q (.lst (srt bs))) := Ext.upd hq'
            refine ⟨_, _, marks_dp (SqL.of (eq1 _ _ hD1)) (prd_mono (fun _ _ z => z.imm (Imm.of eq1)) pz), marks_dp (SqL.of upd_same) (prd_mono (fun _ _ z => z.imm (Imm.of eq1)) k5), marks_shaped lok, marks_shaped (fun th h => mok th (List.mem_mergeSort.mp h)), ?_⟩
            rw [← hsame, marks_self lok]
            exact ⟨_, rfl, iteF (next_ok (hN _ _ ⟨⟨_, rfl⟩, eM.trans eq1⟩))⟩
        · obtain ⟨⟨s7, rfl⟩, eH⟩ := hP
          refine ⟨_, rfl, r, rfl, ⟨ws, SqL.of (eH _ _ hr4)⟩, ?_⟩
          refine for_src (src_list (xs := ws)) (fun j σ H' => (∃ s7 : Option V, σ = [some (.ref p), some (.ref d), some (.ref b), some (.ref ka), some (.str f), some (.ref l), some (.ref r), s7]) ∧ Ext G4 H') ⟨⟨_, rfl⟩, eH⟩ (fun j σ H' _ h => SqL.of (h.2 _ _ hr4)) (fun j x σ X1 X2 hj h hy => ?_) fun σ H' h => ?_
          · obtain ⟨rfl, hz⟩ := hy
            obtain ⟨⟨s7, rfl⟩, eX⟩ := h
            obtain ⟨th, hth, hat⟩ := prd_get hp4 hz
            have hat := hat.imm (Imm.of eX)
            rcases th_ok (lok th (List.mem_of_getElem? hth)) with ⟨z, rfl, rfl, k⟩ | ⟨tt, z, rfl, rfl, k⟩ | ⟨pl, rfl, rfl, k⟩ | ⟨yy, mm, dd, rfl, rfl, k⟩ | ⟨nn, rfl, rfl, k⟩ <;> cases hf
            · have : x = .str z := hat
              subst this
              refine ⟨_, rfl, ⟨_, _, _, _, _, rfl, .own _, .base (.str z), T.kit 5 rfl, _, rfl, rfl, rfl, _, rfl, if_ndecF (by decide) ?_⟩⟩
              refine ⟨_, rfl, ⟨_, _, _, _, _, rfl, .own _, .base (.str z), T.kit 6 rfl, _, rfl, rfl, rfl, _, rfl, if_ndecF (by decide) ?_⟩⟩
              exact next_ok ⟨⟨_, rfl⟩, eX⟩
            · obtain ⟨xa, rfl, hxa⟩ := hat
              refine ⟨_, rfl, ⟨_, _, _, _, _, rfl, .own _, .base (.tup hxa), T.kit 7 rfl, _, rfl, rfl, rfl, _, rfl, if_ndecF (by decide) ?_⟩⟩
              refine ⟨_, rfl, ⟨_, _, _, _, _, rfl, .own _, .base (.tup hxa), T.kit 8 rfl, _, rfl, rfl, rfl, _, rfl, if_ndecF (by decide) ?_⟩⟩
              exact next_ok ⟨⟨_, rfl⟩, eX⟩
            · obtain ⟨xa, xw, rfl, hxa, _⟩ := hat
              refine ⟨_, rfl, ⟨_, _, _, _, _, rfl, .own _, .base (.tup hxa), T.kit 7 rfl, _, rfl, rfl, rfl, _, rfl, if_ndecF (by decide) ?_⟩⟩
              refine ⟨_, rfl, ⟨_, _, _, _, _, rfl, .own _, .base (.tup hxa), T.kit 8 rfl, _, rfl, rfl, rfl, _, rfl, if_ndecF (by decide) ?_⟩⟩
              exact next_ok ⟨⟨_, rfl⟩, eX⟩
            · obtain ⟨xa, xd, rfl, hxa⟩ := hat
              refine ⟨_, rfl, ⟨_, _, _, _, _, rfl, .own _, T.ty_Day hxa, T.kit 9 rfl, _, rfl, rfl, rfl, _, rfl, if_ndecF (by decide) ?_⟩⟩
              refine ⟨_, rfl, ⟨_, _, _, _, _, rfl, .own _, T.ty_Day hxa, T.kit 10 rfl, _, rfl, rfl, rfl, _, rfl, if_ndecF (by decide) ?_⟩⟩
              exact next_ok ⟨⟨_, rfl⟩, eX⟩
            · obtain ⟨xa, xd, rfl, hxa⟩ := hat
              refine ⟨_, rfl, ⟨_, _, _, _, _, rfl, .own _, T.ty_Length hxa, T.kit 11 rfl, _, rfl, rfl, rfl, _, rfl, if_ndecF (by decide) ?_⟩⟩
              refine ⟨_, rfl, ⟨_, _, _, _, _, rfl, .own _, T.ty_Length hxa, T.kit 12 rfl, _, rfl, rfl, rfl, _, rfl, if_ndecF (by decide) ?_⟩⟩
              exact next_ok ⟨⟨_, rfl⟩, eX⟩
          · obtain ⟨⟨s7, rfl⟩, eX⟩ := h
            exact next_ok ⟨⟨_, _, _, _, rfl⟩, g3.trans (e4'.trans (ExtN.of eX)), t4'.ext eX⟩
      · obtain ⟨⟨s4, s5, s6, s7, rfl⟩, g1, u1⟩ := h
        exact ⟨⟨_, _, _, _, _, _, rfl⟩, eF.trans g1, u1⟩
    · obtain ⟨⟨s2, s3, s4, s5, s6, s7, rfl⟩, e3, t3⟩ := h
      refine ⟨hdd e3, ?_⟩
      have eN := extN_frz hdic hfz e3
      have hU := hu1.extN eN
      have tU : Tabs (TT K) (upd H' d (.dT kvs)) := tabs_upd (hdd e3) (fun _ z => nomatch z) (fun _ _ z => nomatch z) t3
      have hd' : upd H' d (.dT kvs) d = some (.dT kvs) := upd_same
      generalize upd H' d (.dT kvs) = H5 at eN hU tU hd'
      obtain ⟨dx5, d5, kvs5, T5, hins5, _⟩ := id hU
      refine ⟨_, rfl, p, dx5, _, rfl, hins5, p, t, rfl, hU, (t.length : Int), rfl, by omega, ?_, ?_⟩
      · have := tok.len uo
        omega
      · refine ⟨_, rfl, d, kvs, rfl, hd', rfl, ?_⟩
        rw [show decide (V.int (t.length : Nat) = V.int (kvs.length : Nat)) = true from decide_eq_true (by rw [← dtab_len htab, same.len tok tok'])]
        exact hq _ eN tU
end
end TW
set_option Elab.async false
set_option linter.all false
set_option maxRecDepth 100000
set_option maxHeartbeats 4000000
namespace TW
open PySem PySem.Spec PyProof.Rows L2 LamX
/-! ### listings while the hand moves -/
section
variable {K : PySem.W.Frag} {H H' : Hp} {h p : Addr} {n : Nat} {t : ATab}
theorem ListAt.nh {l : Addr} {ths : List Th} (hh : HandAt H h n) (a : ListAt K H l ths) : l ≠ h := fun e => by
  obtain ⟨g, s, x, q, _⟩ := hh
  obtain ⟨vs, h1, h2⟩ := a
  rw [e, q] at h1
  injection h1 with h1
  injection h1 with h1
  subst h1
  cases h2 with
  | cons a _ => exact th_nint a g rfl
theorem hand_is {b : Addr} {o : HO} (hh : HandAt H h n) (hb : H b = some o) (ho : ∀ xs, o ≠ .lst xs) : b ≠ h := fun e => by
  obtain ⟨g, s, x, q, _⟩ := hh
  rw [e, q] at hb
  exact ho _ (Option.some.inj hb).symm
theorem LisU.kp (k : KpH h H H') (hh : HandAt H h n) (a : LisU K H p t) : LisU K H' p t := by
  obtain ⟨dx, d, kvs, T, h1, h2, h3, h4⟩ := a
  refine ⟨dx, d, kvs, T, k _ _ (hand_is hh h1 fun _ z => nomatch z) h1, k _ _ (hand_is hh h2 fun _ z => nomatch z) h2, prd_mono (fun kv t q => ⟨q.1, ?_⟩) h3, h4⟩
  obtain ⟨kk, e1, e2, e3, e4⟩ := q.2
  exact ⟨kk, e1, k _ _ (hand_is hh e2 fun _ z => nomatch z) e2, e3, prd_mono (fun l ths z => ListAt.kp k hh (ListAt.nh hh z) z) e4⟩
theorem EntAt.kp {v : V} {e : Ent} (k : KpH h H H') (hh : HandAt H h n) (a : EntAt K H v e) : EntAt K H' v e := a.imm (KpH.imm k hh)
end
end TW
set_option Elab.async false
set_option linter.all false
set_option maxRecDepth 100000
set_option maxHeartbeats 4000000
namespace TW
open PySem PySem.Spec PyProof.Rows L2
section
variable {P : Program} {w : World} {K : PySem.W.Frag} {mg : Str → Option Value} {base : Heap}

/-- a listing that does not stand on S -/
def LisF (K : PySem.W.Frag) (S : Addr → Prop) (H : Hp) (p : Addr) (t : ATab) : Prop := ∃ dx d kvs T, H p = some (.ins (cListing K) dx [("things", .ref d)]) ∧ H d = some (.dT kvs) ∧ TabAt K H kvs T ∧ absT T = t ∧ ∀ l ∈ lists T, ¬ S l
theorem LisF.u {S : Addr → Prop} {H : Hp} {p : Addr} {t : ATab} (a : LisF K S H p t) : LisU K H p t := let ⟨dx, d, kvs, T, h1, h2, h3, h4, _⟩ := a; ⟨dx, d, kvs, T, h1, h2, h3, h4⟩
theorem lists_some {H : Hp} : ∀ {kvs : List (List Key × V)} {T : Tab}, TabAt K H kvs T → ∀ l ∈ lists T, ∃ o, H l = some o
  | _, _, .nil, _, h => by cases h
  | _, _, .cons (b := t) (l₂ := T) a r, l, h => by
    rw [lists_cons] at h
    rcases List.mem_append.mp h with h | h
    · obtain ⟨k, _, _, _, q⟩ := a.2
      obtain ⟨i, hi⟩ := List.mem_iff_getElem?.mp h
      obtain ⟨_, _, vs, z, _⟩ := prd_get q hi
      exact ⟨_, z⟩
    · exact lists_some r l h
theorem LisF.of {S : Addr → Prop} {H : Hp} {p : Addr} {t : ATab} (hn : ∀ b, S b → H b = none) (a : LisU K H p t) : LisF K S H p t := by
  obtain ⟨dx, d, kvs, T, h1, h2, h3, h4⟩ := a
  refine ⟨dx, d, kvs, T, h1, h2, h3, h4, fun l hl z => ?_⟩
  obtain ⟨o, ho⟩ := lists_some h3 l hl
  rw [hn l z] at ho
  cases ho
theorem LisF.add {S : Addr → Prop} {H : Hp} {p r : Addr} {t : ATab} (hn : H r = none) (a : LisF K S H p t) : LisF K (fun b => S b ∨ b = r) H p t := by
  obtain ⟨dx, d, kvs, T, h1, h2, h3, h4, h5⟩ := a
  refine ⟨dx, d, kvs, T, h1, h2, h3, h4, fun l hl z => z.elim (h5 l hl) fun z => ?_⟩
  obtain ⟨o, ho⟩ := lists_some h3 l hl
  rw [z, hn] at ho
  cases ho
theorem LisF.sub {S S' : Addr → Prop} {H : Hp} {p : Addr} {t : ATab} (h : ∀ b, S' b → S b) (a : LisF K S H p t) : LisF K S' H p t :=
  let ⟨dx, d, kvs, T, h1, h2, h3, h4, h5⟩ := a; ⟨dx, d, kvs, T, h1, h2, h3, h4, fun l hl z => h5 l hl (h l z)⟩
theorem LisF.ext {S : Addr → Prop} {H H' : Hp} {p : Addr} {t : ATab} (e : Ext H H') (a : LisF K S H p t) : LisF K S H' p t :=
  let ⟨dx, d, kvs, T, h1, h2, h3, h4, h5⟩ := a; ⟨dx, d, kvs, T, e _ _ h1, e _ _ h2, h3.ext e, h4, h5⟩
theorem LisF.kp {S : Addr → Prop} {H H' : Hp} {h : Addr} {n : Nat} {p : Addr} {t : ATab} (k : KpH h H H') (hh : HandAt H h n) (a : LisF K S H p t) : LisF K S H' p t := by
  obtain ⟨dx, d, kvs, T, h1, h2, h3, h4, h5⟩ := a
  refine ⟨dx, d, kvs, T, k _ _ (hand_is hh h1 fun _ z => nomatch z) h1, k _ _ (hand_is hh h2 fun _ z => nomatch z) h2, prd_mono (fun kv t q => ⟨q.1, ?_⟩) h3, h4, h5⟩
  obtain ⟨kk, e1, e2, e3, e4⟩ := q.2
  exact ⟨kk, e1, k _ _ (hand_is hh e2 fun _ z => nomatch z) e2, e3, prd_mono (fun l ths z => ListAt.kp k hh (ListAt.nh hh z) z) e4⟩
theorem LisF.upd {S : Addr → Prop} {rl : Addr} {H : Hp} {p : Addr} {t : ATab} {ws : List V} {o : HO} (hS : S rl) (hl : H rl = some (.lst ws)) (a : LisF K S H p t) : LisF K S (upd H rl o) p t := by
  obtain ⟨dx, d, kvs, T, h1, h2, h3, h4, h5⟩ := a
  exact ⟨dx, d, kvs, T, by rw [upd_ne (ne_of h1 hl fun z => nomatch z)]; exact h1, by rw [upd_ne (ne_of h2 hl fun z => nomatch z)]; exact h2, tab_keep hl h3 (fun z => h5 _ z hS), h4, h5⟩
theorem LisF.of_lb {S : Addr → Prop} {B H : Hp} {p d : Addr} {T : Tab} (hb : ∀ b, S b → ∃ o, B b = some o) (a : LB K B H p d T) : LisF K S H p (absT T) := by
  obtain ⟨dx, h1⟩ := a.ins
  obtain ⟨kvs, h2, h3⟩ := a.dic
  refine ⟨dx, d, kvs, T, h1, h2, h3, rfl, fun l hl z => ?_⟩
  have := a.fl l hl
  obtain ⟨o, ho⟩ := hb l z
  rw [ho] at this
  cases this
theorem kp_some {H H' : Hp} {h b : Addr} {n : Nat} (k : KpH h H H') (hh : HandAt H' h n) (o : ∃ o, H b = some o) : ∃ o, H' b = some o := by
  obtain ⟨o, ho⟩ := o
  by_cases e : b = h
  · obtain ⟨g, s, t, q, _⟩ := hh
    exact ⟨_, by rw [e]; exact q⟩
  · exact ⟨o, k _ _ e ho⟩
/-- a listing, its table, its entries -/
def LisE (K : PySem.W.Frag) (U : List Ent) (S : Addr → Prop) (H : Hp) (v : V) (es : List Ent) : Prop := ∃ (p : Addr) (t : ATab), v = .ref p ∧ LisF K S H p t ∧ TabOk U t ∧ Of t es
theorem seq_at {n j : Nat} (h : j < n) : seqIndex? (j : Int) n = some j := by
  obtain ⟨j2, g1, g2, _⟩ := atI_get (xs := List.range n) (i := (j : Int)) (v := j) (atI_nat (by rw [List.getElem?_range h]))
  rw [List.length_range] at g1
  have hj2 : j2 < n := by have := (List.getElem?_eq_some_iff.mp g2).1; rwa [List.length_range] at this
  rw [List.getElem?_range hj2] at g2
  rw [g1, Option.some.inj g2]
theorem prd_erase {α β : Type} {R : α → β → Prop} : ∀ {xs : List α} {ys : List β} {j : Nat}, Paired R xs ys → Paired R (xs.eraseIdx j) (ys.eraseIdx j)
  | _, _, _, .nil => .nil
  | _, _, 0, .cons _ t => t
  | _, _, j + 1, .cons a t => .cons a (prd_erase t)
theorem prd_take {α β : Type} {R : α → β → Prop} : ∀ {xs : List α} {ys : List β} {k : Nat}, Paired R xs ys → Paired R (xs.take k) (ys.take k) ∧ Paired R (xs.drop k) (ys.drop k)
  | _, _, k, .nil => by rw [List.take_nil, List.take_nil, List.drop_nil, List.drop_nil]; exact ⟨.nil, .nil⟩
  | _, _, 0, .cons a t => ⟨.nil, .cons a t⟩
  | _, _, k + 1, .cons a t => ⟨.cons a (prd_take t).1, (prd_take t).2⟩
theorem mem_erase_flat {α : Type} {e : α} : ∀ {ys : List (List α)} {j : Nat} {y : List α}, ys[j]? = some y → (e ∈ ys.flatten ↔ e ∈ y ∨ e ∈ (ys.eraseIdx j).flatten)
  | [], _, _, h => by simp at h
  | a :: ys, 0, y, h => by
    have h : a = y := by simpa using h
    subst h
    simp
  | a :: ys, j + 1, y, h => by
    have ih := mem_erase_flat (e := e) (ys := ys) (j := j) (y := y) (by simpa using h)
    rw [List.flatten_cons, List.mem_append, ih, List.eraseIdx_cons_succ, List.flatten_cons, List.mem_append]
    exact ⟨fun q => q.elim (fun q => .inr (.inl q)) fun q => q.elim .inl fun q => .inr (.inr q), fun q => q.elim (fun q => .inr (.inl q)) fun q => q.elim .inl fun q => .inr (.inr q)⟩
theorem mem_ins_flat {α : Type} {e : α} {ys : List (List α)} {k : Nat} {y : List α} : e ∈ (ys.take k ++ [y] ++ ys.drop k).flatten ↔ e ∈ y ∨ e ∈ ys.flatten := by
  have : ys.flatten = (ys.take k).flatten ++ (ys.drop k).flatten := by rw [← List.flatten_append, List.take_append_drop]
  rw [this]
  simp only [List.flatten_append, List.mem_append, List.flatten_cons, List.flatten_nil, List.append_nil]
  exact ⟨fun q => q.elim (fun q => q.elim (fun q => .inr (.inl q)) .inl) fun q => .inr (.inr q), fun q => q.elim (fun q => .inl (.inr q)) fun q => q.elim (fun q => .inl (.inl q)) .inr⟩
theorem LisE.ext {S : Addr → Prop} {U : List Ent} {H H' : Hp} {v : V} {es : List Ent} (e : Ext H H') (a : LisE K U S H v es) : LisE K U S H' v es := let ⟨p, t, q, a1, a2, a3⟩ := a; ⟨p, t, q, a1.ext e, a2, a3⟩
theorem LisE.kp {S : Addr → Prop} {U : List Ent} {H H' : Hp} {h : Addr} {n : Nat} {v : V} {es : List Ent} (k : KpH h H H') (hh : HandAt H h n) (a : LisE K U S H v es) : LisE K U S H' v es := let ⟨p, t, e, a1, a2, a3⟩ := a; ⟨p, t, e, a1.kp k hh, a2, a3⟩
theorem LisE.upd {S : Addr → Prop} {rl : Addr} {U : List Ent} {H : Hp} {v : V} {es : List Ent} {ws : List V} {o : HO} (hS : S rl) (hl : H rl = some (.lst ws)) (a : LisE K U S H v es) : LisE K U S (upd H rl o) v es := let ⟨p, t, e, a1, a2, a3⟩ := a; ⟨p, t, e, a1.upd hS hl, a2, a3⟩
theorem LisE.add {S : Addr → Prop} {r : Addr} {U : List Ent} {H : Hp} {v : V} {es : List Ent} (hn : H r = none) (a : LisE K U S H v es) : LisE K U (fun b => S b ∨ b = r) H v es := let ⟨p, t, e, a1, a2, a3⟩ := a; ⟨p, t, e, a1.add hn, a2, a3⟩
theorem LisE.sub {S S' : Addr → Prop} {U : List Ent} {H : Hp} {v : V} {es : List Ent} (h : ∀ b, S' b → S b) (a : LisE K U S H v es) : LisE K U S' H v es := let ⟨p, t, e, a1, a2, a3⟩ := a; ⟨p, t, e, a1.sub h, a2, a3⟩
def sp_law_grouped (K : PySem.W.Frag) : Sp := fun vs H Q _ => ∃ (h la : Addr) (n : Nat) (vs0 : List V) (xs : List (List Ent)) (U : List Ent) (S : Addr → Prop), vs = [.ref h, .ref la] ∧ HandAt H h n ∧ n ≤ 800000 ∧ H la = some (.lst vs0) ∧ Paired (LisE K U S H) vs0 xs ∧ (∀ b, S b → ∃ o, H b = some o) ∧ UOk U ∧ 1 ≤ vs0.length ∧ vs0.length ≤ 10 ∧ ∀ v H' es, KpH h H H' → HandAt H' h (n + 50) → LisE K U S H' v es → (∀ e, e ∈ es ↔ e ∈ xs.flatten) → Q v H'
theorem ok_law_grouped (T : Txt K mg) : C8.Cal P w K mg base 9 "_law_grouped" (sp_law_grouped K) [] := by
  obtain ⟨fd, F⟩ := T.d_law_grouped
  refine cal_of F T.g_law_grouped (fun _ _ _ _ _ _ us hl => match us, hl with | [_, _], _ => rfl) sc_law_grouped (fun vs H Q E h => ?_) fun cdv A outer s H vs Q E hr h => ?_
  · obtain ⟨h, la, n, vs0, xs, U, S, rfl, hh, hn, hla, hp, hS, uo, l1, l2, hq⟩ := h
    rfl
  · have hu := hu_of hr
    have hu64 := hr.units
    obtain ⟨h, la, n, vs0, xs, U, S, rfl, hh, hn, hla, hp, hS, uo, l1, l2, hq⟩ := h
    refine ⟨_, (pss_cons (ps_set (i := 2) sc_law_grouped.nd rfl (by first | exact Or.inl rfl | exact Or.inr rfl) (pe_callTy call_list_of (by rfl) T.f_list (by decide +kernel) (pa_cons (pv 1) pa_nil)))
    (pss_cons (ps_while PassesOwn.never (pt_cmpR op_gt (pe_callB call_len (by rfl) T.f_len (by decide +kernel) (pa_cons (pv 2) pa_nil)) pe_int (nomark _))
    (pss_cons (ps_set (i := 3) sc_law_grouped.nd rfl (by first | exact Or.inl rfl | exact Or.inr rfl) (pe_bm PySem.F.plainAttrs_list PySem.F.slot_list_pop PySem.F.type_list_pop mt_popAt (pv 2) (pa_cons (C8.pe_c (ok_law_take T) hr (by decide) rfl (pa_cons (pv 0) (pa_cons (pe_callB call_len (by rfl) T.f_len (by decide +kernel) (pa_cons (pv 2) pa_nil)) pa_nil))) pa_nil)))
    (pss_cons (ps_set (i := 4) sc_law_grouped.nd rfl (by first | exact Or.inl rfl | exact Or.inr rfl) (pe_bm PySem.F.plainAttrs_list PySem.F.slot_list_pop PySem.F.type_list_pop mt_popAt (pv 2) (pa_cons (C8.pe_c (ok_law_take T) hr (by decide) rfl (pa_cons (pv 0) (pa_cons (pe_callB call_len (by rfl) T.f_len (by decide +kernel) (pa_cons (pv 2) pa_nil)) pa_nil))) pa_nil)))
    (pss_one (ps_expr (pe_bm PySem.F.plainAttrs_list PySem.F.slot_list_insert PySem.F.type_list_insert mt_insert (pv 2) (pa_cons (C8.pe_c (ok_law_take T) hr (by decide) rfl (pa_cons (pv 0) (pa_cons (pe_op op_add (pe_callB call_len (by rfl) T.f_len (by decide +kernel) (pa_cons (pv 2) pa_nil)) pe_int) pa_nil))) (pa_cons (C8.pe_mt (ok_Listing_joined T) hr (by decide) (pv 3) (pa_cons (pv 4) pa_nil)) pa_nil))))))))
    (pss_one (ps_ret (pe_ix ix_list (pv 2) pe_int (fun _ _ => rfl)))))), ?_⟩
    refine ⟨_, rfl, la, vs0, rfl, .inl (SqL.of hla), fun rl hrl => ?_⟩
    refine next_ok ?_
    dsimp only
    have hne : rl ≠ h := fun e => hand_ne hh hrl e.symm
    refine seq_cut (fun σ H' => ∃ (us : List V) (ys : List (List Ent)) (s3 s4 : Option V), σ = [some (.ref h), some (.ref la), some (.ref rl), s3, s4] ∧ us.length = 1 ∧ KpH h H H' ∧ H' rl = some (.lst us) ∧ HandAt H' h (n + 50) ∧ Paired (LisE K U (fun b => S b ∨ b = rl) H') us ys ∧ (∀ e, e ∈ ys.flatten ↔ e ∈ xs.flatten)) (fun N hN => ?_) (fun σ H' hP => ?_)
    · refine ⟨fun m σ H' => ∃ (us : List V) (ys : List (List Ent)) (s3 s4 : Option V), σ = [some (.ref h), some (.ref la), some (.ref rl), s3, s4] ∧ m = us.length ∧ 1 ≤ us.length ∧ us.length ≤ vs0.length ∧ KpH h H H' ∧ H' rl = some (.lst us) ∧ HandAt H' h (n + 3 * (vs0.length - us.length)) ∧ Paired (LisE K U (fun b => S b ∨ b = rl) H') us ys ∧ (∀ e, e ∈ ys.flatten ↔ e ∈ xs.flatten),
        ⟨_, vs0, xs, _, _, rfl, rfl, l1, Nat.le_refl _, Kp.of (Ext.upd hrl), upd_same, by rw [Nat.sub_self]; exact hh.upd hne.symm, prd_mono (fun _ _ q => (LisE.add hrl q).ext (Ext.upd hrl)) hp, fun _ => Iff.rfl⟩, ?_⟩
      rintro m σ H' ⟨us, ys, s3, s4, rfl, rfl, u1, u2, kk, hrl', hh', hp', hmem⟩
      refine ⟨_, rfl, _, us.length, rfl, .inl ⟨us, SqL.of hrl', rfl⟩, _, _, rfl, rfl, _, rfl, ?_⟩
      by_cases hu : 1 < us.length
      case neg => exact if_decF (by omega) (hN _ _ ⟨us, ys, s3, s4, rfl, by omega, kk, hrl', hh'.mono (by omega), hp', hmem⟩)
      refine if_decT (by omega) ⟨fun σ' H' => ∃ m', m' < us.length ∧ ∃ (us : List V) (ys : List (List Ent)) (s3 s4 : Option V), σ' = [some (.ref h), some (.ref la), some (.ref rl), s3, s4] ∧ m' = us.length ∧ 1 ≤ us.length ∧ us.length ≤ vs0.length ∧ KpH h H H' ∧ H' rl = some (.lst us) ∧ HandAt H' h (n + 3 * (vs0.length - us.length)) ∧ Paired (LisE K U (fun b => S b ∨ b = rl) H') us ys ∧ (∀ e, e ∈ ys.flatten ↔ e ∈ xs.flatten), fun σ' H' q => q, ?_⟩
      have yl := prd_len hp'
      refine ⟨_, rfl, .inl ⟨rfl, _, SqL.of hrl'⟩, _, rfl, _, rfl, _, _, rfl, .inl ⟨_, SqL.of hrl', rfl⟩, h, _, _, rfl, hh', by omega, by omega, by omega, fun r H1 k1 hh1 r0 r1 => ?_⟩
      obtain ⟨j, rfl⟩ : ∃ j : Nat, r = j := ⟨r.toNat, by omega⟩
      have hj : j < us.length := by omega
      have hrl1 := k1 _ _ hne hrl'
      refine ⟨rl, us, _, j, us[j], rfl, rfl, hrl1, by omega, by omega, seq_at hj, List.getElem?_eq_getElem hj, ?_⟩
      refine next_ok ?_
      dsimp only
      obtain ⟨y1, hy1, p1, t1, e1, a1, a2, a3⟩ := prd_get hp' (List.getElem?_eq_getElem hj)
      have hp1 := prd_mono (fun _ _ q => LisE.upd (.inr rfl) hrl1 (o := .lst (us.eraseIdx j)) (LisE.kp k1 hh' q)) hp'
      have a1 := (a1.kp k1 hh').upd (.inr rfl) hrl1 (o := .lst (us.eraseIdx j))
      have hrl2 : upd H1 rl (.lst (us.eraseIdx j)) rl = some (.lst (us.eraseIdx j)) := upd_same
      have hh2 := hh1.upd (o := .lst (us.eraseIdx j)) hne.symm
      have kk2 : KpH h H (upd H1 rl (.lst (us.eraseIdx j))) := (kk.trans k1).mut hrl
      generalize upd H1 rl (.lst (us.eraseIdx j)) = H2 at hp1 a1 hrl2 hh2 kk2
      have hu2 : (us.eraseIdx j).length = us.length - 1 := List.length_eraseIdx_of_lt hj
      have hp2 := prd_erase (j := j) hp1
      have hm2 : ∀ e, e ∈ ys.flatten ↔ e ∈ y1 ∨ e ∈ (ys.eraseIdx j).flatten := fun e => mem_erase_flat hy1
      rw [e1]
      generalize us.eraseIdx j = us2 at hrl2 hu2 hp2
      generalize ys.eraseIdx j = ys2 at hp2 hm2
      refine ⟨_, rfl, .inl ⟨rfl, _, SqL.of hrl2⟩, _, rfl, _, rfl, _, _, rfl, .inl ⟨_, SqL.of hrl2, rfl⟩, h, _, _, rfl, hh2, by omega, by omega, by omega, fun r H3 k3 hh3 r0 r1 => ?_⟩
      obtain ⟨j2, rfl⟩ : ∃ j2 : Nat, r = j2 := ⟨r.toNat, by omega⟩
      have hj2 : j2 < us2.length := by omega
      have hrl3 := k3 _ _ hne hrl2
      refine ⟨rl, us2, _, j2, us2[j2], rfl, rfl, hrl3, by omega, by omega, seq_at hj2, List.getElem?_eq_getElem hj2, ?_⟩
      refine next_ok ?_
      dsimp only
      obtain ⟨y2, hy2, p2, t2, e2, b1, b2, b3⟩ := prd_get hp2 (List.getElem?_eq_getElem hj2)
      have hp3 := prd_mono (fun _ _ q => LisE.upd (.inr rfl) hrl3 (o := .lst (us2.eraseIdx j2)) (LisE.kp k3 hh2 q)) hp2
      have a1 := (a1.kp k3 hh2).upd (.inr rfl) hrl3 (o := .lst (us2.eraseIdx j2))
      have b1 := (b1.kp k3 hh2).upd (.inr rfl) hrl3 (o := .lst (us2.eraseIdx j2))
      have hrl4 : upd H3 rl (.lst (us2.eraseIdx j2)) rl = some (.lst (us2.eraseIdx j2)) := upd_same
      have hh4 := hh3.upd (o := .lst (us2.eraseIdx j2)) hne.symm
      have kk4 : KpH h H (upd H3 rl (.lst (us2.eraseIdx j2))) := (kk2.trans k3).mut hrl
      generalize upd H3 rl (.lst (us2.eraseIdx j2)) = H4 at hp3 a1 b1 hrl4 hh4 kk4
      have hu4 : (us2.eraseIdx j2).length = us2.length - 1 := List.length_eraseIdx_of_lt hj2
      have hp4 := prd_erase (j := j2) hp3
      have hm4 : ∀ e, e ∈ ys2.flatten ↔ e ∈ y2 ∨ e ∈ (ys2.eraseIdx j2).flatten := fun e => mem_erase_flat hy2
      rw [e2]
      generalize us2.eraseIdx j2 = us4 at hrl4 hu4 hp4
      generalize ys2.eraseIdx j2 = ys4 at hp4 hm4
      refine ⟨_, rfl, .inl ⟨rfl, _, SqL.of hrl4⟩, _, rfl, _, rfl, _, _, rfl, .inl ⟨_, SqL.of hrl4, rfl⟩, _, _, rfl, rfl, h, _, _, rfl, hh4, by omega, by omega, by omega, fun r H5 k5 hh5 r0 r1 => ?_⟩
      obtain ⟨j4, rfl⟩ : ∃ j4 : Nat, r = j4 := ⟨r.toNat, by omega⟩
      have hrl5 := k5 _ _ hne hrl4
      have a5 := a1.kp k5 hh4
      have b5 := b1.kp k5 hh4
      obtain ⟨dx1, d1, _, _, i1, _⟩ := id a5
      refine ⟨_, rfl, p1, dx1, _, rfl, i1, rfl, _, rfl, p1, p2, t1, t2, U, rfl, a5.u, b5.u, uo, a2, b2, fun q H6 B d6 T6 eB e6 lb ab => ?_⟩
      have hrl6 := e6 _ _ hrl5
      refine ⟨rl, us4, j4, .ref q, rfl, rfl, hrl6, (by omega : us4.length < 16777216), by omega, by omega, ?_⟩
      have tq : TabOk U (absT T6) := by rw [ab]; exact tabOk_join uo a2 b2
      have oq : Of (absT T6) (y1 ++ y2) := by rw [ab]; exact of_join a3 b3 a2 b2
      have lq : LisE K U (fun b => S b ∨ b = rl) H6 (.ref q) (y1 ++ y2) := ⟨q, absT T6, rfl, LisF.of_lb (fun b z => z.elim (fun z => let ⟨o, ho⟩ := kp_some (kk4.trans k5) hh5 (hS b z); ⟨o, eB _ _ ho⟩) fun z => ⟨.lst us4, z ▸ eB _ _ hrl5⟩) lb, tq, oq⟩
      have hp6 := prd_mono (fun _ _ z => LisE.upd (.inr rfl) hrl6 (o := .lst (us4.take (j4 : Int).toNat ++ [.ref q] ++ us4.drop (j4 : Int).toNat)) ((LisE.kp k5 hh4 z).ext e6)) hp4
      have lq6 := lq.upd (.inr rfl) hrl6 (o := .lst (us4.take (j4 : Int).toNat ++ [.ref q] ++ us4.drop (j4 : Int).toNat))
      have tk := prd_take (k := (j4 : Int).toNat) hp6
      have nl : (us4.take (j4 : Int).toNat ++ [V.ref q] ++ us4.drop (j4 : Int).toNat).length = us4.length + 1 := by
        rw [List.length_append, List.length_append, List.length_take, List.length_drop, List.length_singleton]; omega
      refine ⟨_, ?_, us4.take (j4 : Int).toNat ++ [.ref q] ++ us4.drop (j4 : Int).toNat, ys4.take (j4 : Int).toNat ++ [y1 ++ y2] ++ ys4.drop (j4 : Int).toNat, _, _, rfl, rfl, by omega, by omega, ((kk4.trans k5).trans (Kp.of e6)).mut hrl, upd_same, ((hh5.ext e6).mono (by omega)).upd hne.symm, prd_app (prd_app tk.1 (.cons lq6 .nil)) tk.2, fun e => ?_⟩
      · omega
      · rw [mem_ins_flat, ← hmem e, hm2 e, hm4 e, List.mem_append]
        exact ⟨fun q => q.elim (fun q => q.elim .inl fun q => .inr (.inl q)) fun q => .inr (.inr q), fun q => q.elim (fun q => .inl (.inl q)) fun q => q.elim (fun q => .inl (.inr q)) .inr⟩
    obtain ⟨us, ys, s3, s4, rfl, ul, kk, hrl', hh', hp', hmem⟩ := hP
    cases hp' with
    | nil => cases ul
    | cons a t => cases t with
      | cons b t => simp at ul
      | nil =>
        refine ⟨_, rfl, rl, _, 0, _, rfl, rfl, SqL.of hrl', rfl, hq _ H' _ kk hh' (LisE.sub (fun _ => .inl) a) fun e => ?_⟩
        rw [← hmem e]
        simp
end
end TW
set_option Elab.async false
set_option linter.all false
set_option maxRecDepth 100000
set_option maxHeartbeats 4000000
namespace TW
open PySem PySem.Spec PyProof.Rows L2
section
variable {P : Program} {w : World} {K : PySem.W.Frag} {mg : Str → Option Value} {base : Heap}

/-- a list of entries -/
def EsAt (K : PySem.W.Frag) (H : Hp) (v : V) (es : List Ent) : Prop := ∃ a ws, v = .ref a ∧ H a = some (.lst ws) ∧ Paired (EntAt K H) ws es
theorem EsAt.ext {H H' : Hp} {v : V} {es : List Ent} (e : Ext H H') (q : EsAt K H v es) : EsAt K H' v es := let ⟨a, ws, h1, h2, h3⟩ := q; ⟨a, ws, h1, e _ _ h2, prd_mono (fun _ _ z => z.imm (Imm.of e)) h3⟩
/-- one that is not f -/
def EsF (K : PySem.W.Frag) (f : Addr) (H : Hp) (v : V) (es : List Ent) : Prop := ∃ a ws, v = .ref a ∧ a ≠ f ∧ H a = some (.lst ws) ∧ Paired (EntAt K H) ws es
theorem EsF.es {f : Addr} {H : Hp} {v : V} {es : List Ent} (q : EsF K f H v es) : EsAt K H v es := let ⟨a, ws, h1, _, h2, h3⟩ := q; ⟨a, ws, h1, h2, h3⟩
theorem EsF.ext {f : Addr} {H H' : Hp} {v : V} {es : List Ent} (e : Ext H H') (q : EsF K f H v es) : EsF K f H' v es := let ⟨a, ws, h1, h0, h2, h3⟩ := q; ⟨a, ws, h1, h0, e _ _ h2, prd_mono (fun _ _ z => z.imm (Imm.of e)) h3⟩
theorem EsF.upd {f : Addr} {H : Hp} {v : V} {es : List Ent} {us : List V} {o : HO} (hf : H f = some (.lst us)) (q : EsF K f H v es) : EsF K f (upd H f o) v es := let ⟨a, ws, h1, h0, h2, h3⟩ := q; ⟨a, ws, h1, h0, by rw [upd_ne h0]; exact h2, prd_mono (fun _ _ z => z.imm (imm_lst hf)) h3⟩
theorem kp_ext {H H1 H2 : Hp} {h : Addr} (e : Ext H H1) (hn : H h = none) (k : KpH h H1 H2) : Ext H H2 := fun b o hb => k b o (ne_of_none hb hn) (e b o hb)
theorem PoolsAt.ext {H H' : Hp} {a : Addr} {P : List (List Th)} (e : Ext H H') (q : PoolsAt K H a P) : PoolsAt K H' a P := let ⟨ls, h1, h2⟩ := q; ⟨ls, e _ _ h1, prd_mono (fun _ _ z => z.ext e) h2⟩
theorem cut_to (xs : List V) (n : Nat) : cutV xs none (some (n : Int)) = xs.take n := by
  unfold cutV
  rw [HT.sIx_none, HT.sIx_nat, List.drop_zero, Nat.sub_zero]
  by_cases h : n ≤ xs.length
  · rw [Nat.min_eq_left h]
  · rw [Nat.min_eq_right (by omega), List.take_length, List.take_of_length_le (by omega)]
theorem cut_from (xs : List V) (n : Nat) : cutV xs (some (n : Int)) none = xs.drop n := by
  unfold cutV
  rw [HT.sIx_none, HT.sIx_nat]
  by_cases h : n ≤ xs.length
  · rw [Nat.min_eq_left h, List.take_of_length_le (by rw [List.length_drop]; exact Nat.le_refl _)]
  · rw [Nat.min_eq_right (by omega), Nat.sub_self, List.take_zero, List.drop_of_length_le (by omega)]
/-- what is made of the lists -/
structure EssOk (ess : List (List Ent)) : Prop where
  lo : 3 ≤ ess.length
  hi : ess.length ≤ 6
  few : ∀ es ∈ ess, es.length ≤ 6
  ok : ∀ es ∈ ess, ∀ e ∈ es, EntOk e
def sp_law_lists (K : PySem.W.Frag) : Sp := fun vs H Q _ => ∃ (a : Addr) (xs : List Int), vs = [.ref a] ∧ SqL K H a (xs.map V.int) ∧ xs.length ≤ 1000 ∧ ∀ (r h fa : Addr) (ls : List V) ess H', Ext H H' → HandAt H' h 5000 → H' fa = some (.lst ls) → Paired (EsAt K H') ls ess → EssOk ess → H' r = some (.tup [.ref h, .ref fa]) → Q (.ref r) H'
theorem ok_law_lists (T : Txt K mg) : C8.Cal P w K mg base 8 "_law_lists" (sp_law_lists K) [] := by
  obtain ⟨fd, F⟩ := T.d_law_lists
  refine cal_of F T.g_law_lists (fun _ _ _ _ _ _ us hl => match us, hl with | [_], _ => rfl) sc_law_lists (fun vs H Q E h => ?_) fun cdv A outer s H vs Q E hr h => ?_
  · obtain ⟨a, xs, rfl, ha, hl, hq⟩ := h
    rfl
  · have hu := hu_of hr
    have hu64 := hr.units
    obtain ⟨a, xs, rfl, ha, hl, hq⟩ := h
    refine ⟨_, (pss_cons (ps_set (i := 1) sc_law_lists.nd rfl (by first | exact Or.inl rfl | exact Or.inr rfl) (C8.pe_c (ok_law_hand T) hr (by decide) rfl (pa_cons (pv 0) (pa_cons pe_int pa_nil))))
    (pss_cons (ps_set (i := 2) sc_law_lists.nd rfl (by first | exact Or.inl rfl | exact Or.inr rfl) (pe_op op_cat (C8.pe_c (ok_law_keys T) hr (by decide) rfl (pa_cons (pv 1) pa_nil)) (pe_slice sl_list (C8.pe_c (ok_law_keys T) hr (by decide) rfl (pa_cons (pv 1) pa_nil)) po_none (po_some pe_int))))
    (pss_cons (ps_asg (pe_tup (pa_cons (C8.pe_c (ok_law_pools T) hr (by decide) rfl (pa_cons (pv 1) pa_nil)) (pa_cons (pe_lst pa_nil) pa_nil))) (pg_tup (by rfl) (pgs_cons (pg_name (i := 4) sc_law_lists.nd rfl (by first | exact Or.inl rfl | exact Or.inr rfl)) (pgs_cons (pg_name (i := 5) sc_law_lists.nd rfl (by first | exact Or.inl rfl | exact Or.inr rfl)) pgs_nil))))
    (pss_cons (ps_for PassesOwn.never rfl (pi_range1 (by rfl) T.f_range (pa_cons (pe_callB (call_max2 rfl) (by rfl) T.f_max (by decide +kernel) (pa_cons pe_int (pa_cons (pe_callB (call_min2 rfl) (by rfl) T.f_min (by decide +kernel) (pa_cons pe_int (pa_cons (pe_callB call_len (by rfl) T.f_len (by decide +kernel) (pa_cons (pv 0) pa_nil)) pa_nil))) pa_nil))) pa_nil)) (pg_name (i := 3) sc_law_lists.nd rfl (by first | exact Or.inl rfl | exact Or.inr rfl))
    (pss_cons (ps_set (i := 6) sc_law_lists.nd rfl (by first | exact Or.inl rfl | exact Or.inr rfl) (C8.pe_c (ok_law_hand T) hr (by decide) rfl (pa_cons (pv 0) (pa_cons (pe_op op_add (pv 3) pe_int) pa_nil))))
    (pss_one (ps_expr (pe_bm PySem.F.plainAttrs_list PySem.F.slot_list_append PySem.F.type_list_append mt_append (pv 5) (pa_cons (pe_lc (own := [("_law_turn", 7)]) (by rfl) sc_law_lists.nd (pi_range1 (by rfl) T.f_range (pa_cons (C8.pe_c (ok_law_take T) hr (by decide) rfl (pa_cons (pv 6) (pa_cons pe_int pa_nil))) pa_nil)) (blkOk_by (N := N_law_lists) (sc := defScope s_law_lists) (by decide +kernel)) (fun _ _ _ _ _ => (pg_name (i := 7) sc_law_lists.nd rfl (by first | exact Or.inl rfl | exact Or.inr rfl))) (fun _ _ _ _ _ => by exact pts_nil) (fun _ _ _ _ _ => by exact (C8.pe_c (ok_law_entry T) hr (by decide) rfl (pa_cons (pv 6) (pa_cons (pv 2) (pa_cons (pv 4) pa_nil)))))) pa_nil))))))
    (pss_one (ps_ret (pe_tup (pa_cons (pv 1) (pa_cons (pv 5) pa_nil))))))))), ?_⟩
    refine ⟨_, rfl, a, xs, 0, rfl, ha, by decide, hl, fun h H1 e1 hn hh1 => ?_⟩
    refine next_ok ?_
    dsimp only
    refine ⟨_, rfl, h, _, rfl, hh1, by omega, fun a1 H2 ks k2 hh2 ha1 hks kok kl1 kl2 => ⟨_, rfl, h, _, rfl, hh2, by omega, fun a2 H3 ks' k3 hh3 ha2 hks' kok' kl1' kl2' => ?_⟩⟩
    have ne1 := KsAt.ne hh2 hks kl1
    have hks3 := KsAt.kp k3 hh2 ne1 hks
    obtain ⟨ws', hws', hp'⟩ := hks'
    refine ⟨1, rfl, a2, _, rfl, SqL.of hws', fun l1 hl1 => ?_⟩
    generalize hG1 : upd H3 l1 _ = G1
    have f1 : Ext H3 G1 := by rw [← hG1]; exact Ext.upd hl1
    have tl1 : G1 l1 = some (.lst (ws'.take 1)) := by rw [← hG1, upd_same]; exact congrArg (fun z => some (HO.lst z)) (cut_to ws' 1)
    clear hG1
    obtain ⟨ws, hws, hp⟩ := hks3.ext f1
    have wl := prd_len hp
    refine ⟨a1, l1, _, _, rfl, rfl, hws, tl1, by rw [wl, List.length_take]; exact Nat.le_trans (show ks.length + min 1 ws'.length ≤ 5 by omega) (by decide), fun ka hka => ?_⟩
    refine next_ok ?_
    dsimp only
    generalize hG2 : upd G1 ka _ = G2
    have f2 : Ext G1 G2 := by rw [← hG2]; exact Ext.upd hka
    have tka : KsAt G2 ka (ks ++ ks'.take 1) := ⟨ws ++ ws'.take 1, by rw [← hG2, upd_same], prd_app (prd_mono (fun _ _ z => KeyAt.imm (Imm.of f2) z) hp) (prd_mono (fun _ _ z => KeyAt.imm (Imm.of (f1.trans f2)) z) (prd_take (k := 1) hp').1)⟩
    clear hG2
    have kkok : ∀ k ∈ ks ++ ks'.take 1, KeyOk k := fun k hk => (List.mem_append.mp hk).elim (kok k) fun z => kok' k (List.mem_of_mem_take z)
    have kkl1 : 1 ≤ (ks ++ ks'.take 1).length := by rw [List.length_append]; omega
    have kkl2 : (ks ++ ks'.take 1).length ≤ 5 := by rw [List.length_append, List.length_take]; omega
    generalize ks ++ ks'.take 1 = kk at tka kkok kkl1 kkl2
    have hhG2 := (hh3.ext f1).ext f2
    have nek := KsAt.ne hhG2 tka kkl1
    refine ⟨_, rfl, h, _, rfl, hhG2, by omega, fun pa H4 PP k4 hh4 hpa hPP pok => ⟨by show 0 ≤ sizeLine; decide, fun fd hfd => ⟨by show 2 ≤ sizeLine; decide, fun tp htp => ⟨tp, _, rfl, SqT.of upd_same, rfl, _, _, rfl, _, _, rfl, rfl, ?_⟩⟩⟩⟩
    refine next_ok ?_
    dsimp only
    have e4 : Ext H H4 := kp_ext e1 hn (((k2.trans k3).trans (Kp.of (f1.trans f2))).trans k4)
    have tka4 := KsAt.kp k4 hhG2 nek tka
    generalize hG3 : upd (upd H4 fd _) tp _ = G3
    have e3 : Ext H4 G3 := by rw [← hG3]; exact (Ext.upd hfd).trans (Ext.upd htp)
    have tfd : G3 fd = some (.lst []) := by rw [← hG3, upd_ne (fun z => by rw [z, upd_same] at htp; cases htp), upd_same]
    clear hG3 htp
    refine ⟨_, rfl, _, _, rfl, .inl ⟨_, SqL.ext (SqL.ext ha e4) e3, rfl⟩, _, _, rfl, _, _, rfl, _, rfl, ?_⟩
    obtain ⟨z, hz, z3, z6⟩ : ∃ z : Nat, (if (if (((xs.map V.int).length : Nat) : Int) < 6 then (((xs.map V.int).length : Nat) : Int) else 6) > 3 then (if (((xs.map V.int).length : Nat) : Int) < 6 then (((xs.map V.int).length : Nat) : Int) else 6) else 3 : Int) = z ∧ 3 ≤ z ∧ z ≤ 6 := by
      by_cases c1 : (((xs.map V.int).length : Nat) : Int) < 6
      · rw [if_pos c1]
        by_cases c2 : (((xs.map V.int).length : Nat) : Int) > 3
        · rw [if_pos c2]; exact ⟨_, rfl, by omega, by omega⟩
        · rw [if_neg c2]; exact ⟨3, rfl, by omega, by omega⟩
      · rw [if_neg c1, if_pos (by decide)]; exact ⟨6, rfl, by omega, by omega⟩
    rw [hz]
    refine ⟨by omega, by omega, ?_⟩
    refine for_src src_range (fun i σ H' => ∃ (ls : List V) (ess : List (List Ent)) (s3 s6 s7 : Option V), σ = [some (.ref a), some (.ref h), some (.ref ka), s3, some (.ref pa), some (.ref fd), s6, s7] ∧ Ext H4 H' ∧ H' fd = some (.lst ls) ∧ Paired (EsF K fd H') ls ess ∧ ess.length = i ∧ ∀ es ∈ ess, es.length ≤ 6 ∧ ∀ e ∈ es, EntOk e)
      ⟨[], [], _, _, _, rfl, e3, tfd, .nil, rfl, fun _ h => nomatch h⟩ (fun _ _ _ _ _ => True.intro) (fun i x σ M1 M2 hi hP hy => ?_) fun σ H' hP => ?_
    · obtain ⟨rfl, rfl⟩ := hy
      obtain ⟨ls, ess, s3, s6, s7, rfl, eM, hfM, hpM, el, eok⟩ := hP
      have hi6 : i < 6 := by omega
      refine ⟨_, rfl, _, rfl, _, _, rfl, rfl, a, xs, _, rfl, SqL.ext (SqL.ext ha e4) eM, by omega, hl, fun h2 M3 e5 hn2 hh5 => ?_⟩
      refine next_ok ?_
      dsimp only
      refine ⟨_, rfl, .inl ⟨rfl, _, SqL.of (e5 _ _ hfM)⟩, _, rfl, h2, _, 7, rfl, hh5, by omega, by decide, by decide, fun r M4 k6 hh6 r0 r1 => ⟨r, rfl, by omega, by omega, fun D hD => ?_⟩⟩
      have e6 : Ext M2 M4 := kp_ext e5 hn2 k6
      have e46 : Ext H4 M4 := eM.trans e6
      have hDh : D ≠ h2 := fun e => hand_ne hh6 hD e.symm
      have hDf : D ≠ fd := fun e => by rw [e, e6 _ _ hfM] at hD; cases hD
      have tk6 := tka4.ext e46
      have tp6 := hPP.ext e46
      have nk6 := KsAt.ne hh6 tk6 kkl1
      refine lc_map src_range (· = h2) (fun m z H' => ∃ e, EntOk e ∧ EntAt K H' z e) (fun i H' => HandAt H' h2 (1 + 20 * i)) hD hDh (Nat.le_trans (show r.toNat ≤ 7 by omega) (by decide)) (fun m z H H' im ⟨e, h1, h2⟩ => ⟨e, h1, h2.imm im⟩) (fun i H' o a => a.upd hDh.symm) (hh6.mono (by omega)) (fun _ _ _ _ _ => True.intro) (fun i H1 H2 a k => KpH.imm k a) (fun m z H8 H9 hm kp hh8 hy Q' qq => ?_) fun H8 zs kp hD8 hl8 hr8 hh8 => ?_
      · obtain ⟨rfl, rfl⟩ := hy
        exact ⟨rfl, _, rfl, _, rfl, _, rfl, h2, _, ka, pa, kk, PP, rfl, hh8, by omega, KsAt.kp kp hh6 nk6 tk6, kkok, kkl1, by omega, (PoolsAt.kp pok kp hh6 tp6).2, pok, fun v e H9 k9 hh9 ha9 eo => qq _ _ k9 ⟨e, eo, ha9⟩ (hh9.mono (by omega))⟩
      · obtain ⟨es, p1, p2⟩ := prd_pick (zs := zs) (R := EntAt K H8) (C := EntOk) fun z hz => by
          obtain ⟨i, hi⟩ := List.mem_iff_getElem?.mp hz
          exact hr8 i z hi
        have esl : es.length ≤ 6 := by rw [← prd_len p1, hl8]; omega
        have e8 : Ext M2 H8 := kp_ext e6 hn2 kp
        have hf8 := e8 _ _ hfM
        have lsl : ls.length < 6 := by rw [prd_len hpM, el]; exact hi6
        refine ⟨fd, ls, _, rfl, rfl, hf8, Nat.lt_of_lt_of_le lsl (by decide), ls ++ [.ref D], ess ++ [es], _, _, _, rfl, Ext.mut (eM.trans e8) hfd, upd_same, prd_app (prd_mono (fun _ _ q => EsF.upd hf8 (EsF.ext e8 q)) hpM) (.cons (EsF.upd hf8 ⟨D, zs, rfl, hDf, hD8, p1⟩) .nil), by rw [List.length_append, el]; rfl, fun x hx => ?_⟩
        rcases List.mem_append.mp hx with hx | hx
        · exact eok x hx
        · rw [List.mem_singleton.mp hx]; exact ⟨esl, p2⟩
    · obtain ⟨ls, ess, s3, s6, s7, rfl, eM, hfM, hpM, el, eok⟩ := hP
      refine ⟨_, rfl, _, rfl, by show 2 ≤ sizeLine; decide, fun r hr => ?_⟩
      have eu : Ext H' (upd H' r (.tup [.ref h, .ref fd])) := Ext.upd hr
      exact hq r h fd ls ess _ ((e4.trans eM).trans eu) ((((hh4.ext eM).ext eu)).mono (by omega)) (eu _ _ hfM) (prd_mono (fun _ _ q => (EsF.es q).ext eu) hpM) ⟨by omega, by omega, fun es h => (eok es h).1, fun es h => (eok es h).2⟩ upd_same
end
end TW
set_option Elab.async false
set_option linter.all false
set_option maxRecDepth 100000
set_option maxHeartbeats 4000000
namespace TW
open PySem PySem.Spec PyProof.Rows L2 LamX
section
variable {P : Program} {w : World} {K : PySem.W.Frag} {mg : Str → Option Value} {base : Heap}
/-- a def that is called where no repr is under way, under its name -/
structure CalG (P : Program) (w : World) (K : PySem.W.Frag) (mg : Str → Option Value) (base : Heap) (k : Nat) (x : Str) (sp : Sp) : Prop where
  ex : ∃ (f : Addr) (fd : FuncData) (ps : List Str), FnG P w K mg base k f fd ps sp ∧ mg x = some (.ref f) ∧ PySem.W.keepIn K (.ref f) = true ∧ Binds K fd ps []
theorem calG_of {x qual : Str} {params : Arguments} {body : List Stmt} {scope : Scope} {f : Addr} {fd : FuncData} {N ps : List Str} {k : Nat} {sp : Sp} (F : FunD K x qual params body scope [] [] f fd) (hm : mg x = some (.ref f))
    (hb : ∀ (kV doc pm : Value) (an : Option Addr) (cdv ct : Value) (us : List Value), us.length = ps.length → bindArgs (PySem.W.fnOf x qual params body scope .none kV doc pm an cdv ct) ⟨us, []⟩ = pure (ps.zip us))
    (S : FnScope N ps scope) (len : ∀ vs H Q E, sp vs H Q E → vs.length = ps.length)
    (hbody : ∀ (cdv : Value) (A : Around) (outer : List Env) (s : Shared) (H : Hp) (vs : List V) (Q : VK) (E : XK), A.guards = some [] → Room k (A.deeper (envOfC qual scope s.heap.objs.size f cdv)) → sp vs H Q E →
      ∃ t, PSs (cxOf C8.CX0 P w K mg base N qual scope f cdv A outer s H E).nox body t ∧ t { nx := fun _ H' => Q .non H', rt := Q } (start N vs) H) : CalG P w K mg base (k + 1) x sp :=
  ⟨f, fd, ps, fnG_of F S len (fun cdv A outer s H vs Q E hg hr h => let ⟨t, a, b⟩ := hbody cdv A outer s H vs Q E hg hr h; ⟨t, a.nox, b⟩), hm, F.kp, FunD.bindsN F hb⟩
end
section
variable {X : Cx} {k j : Nat} {x : Str} {sp : Sp} {p pos : Pos} {e : Expr} {es : List Expr} {t : TA}
theorem pe_cG (c : CalG X.prog X.w X.K X.mg X.base k x sp) (hG : X.A.guards = some []) (hr : Room j X.A) (hk : k ≤ j) (hg : Gl X x) (ha : PA X (e :: es) t)
    (hdb : (x == ("__debug__" : Str)) = false := by decide) (he : starEach (e :: es) X.env = (false, eval e X.env) :: starEach es X.env := by rfl) (hpl : (backTo pos (starEach es X.env)).any (·.1) = false := by rfl) :
    PE X (.Call (.Name x p) (e :: es) [] pos) (tCall sp [] C8.E0 t) := by
  obtain ⟨f, fd, ps, F, hm, hkp, hb⟩ := c.ex
  exact pe_callG F hG (hr.mono hk) hg hm hkp hb ha hdb he hpl
end
/-! ### within a comprehension -/
section
variable {X : Cx} (P : Program) (w : World) (K : PySem.W.Frag)
theorem kListK (hc : X.calm = true) (hP : X.prog = P := by rfl) (hw : X.w = w := by rfl) (hK : X.K = K := by rfl) : CallR X (.type "list") (rListK P w K) := by subst hP; subst hw; subst hK; exact call_listK hc
end
/-! ### Listing(entries = ..) -/
section
variable {P : Program} {w : World} {K : PySem.W.Frag} {mg : Str → Option Value} {base : Heap}
theorem mkk_Listing (T : Txt K mg) : ∃ f fd its, Mk K (He.ga K "Listing") f ∧ FnOk P w K mg base C8.CX0 6 f fd ["self", "entries"] (sp_Listing_init K) ∧ mg "Listing" = some (.ref (He.ga K "Listing")) ∧ KBn K fd ["self", "entries"] 1 ["entries"] (fun us ws => (fun {α : Type} (a b c : List α) => a ++ c) us its ws) (fun vs zs => (fun {α : Type} (a b c : List α) => a ++ c) vs [V.non] zs) := by
  obtain ⟨fd, F, ok⟩ := fo_Listing_init (P := P) (w := w) (base := base) T
  obtain ⟨its, b⟩ := FunD.kbindsD F 1 ["entries"] (ps := ["self", "entries"]) (fun a b c => a ++ c) (by simp) (fun r1 r2 r3 => r1.append r3) (fun _ _ _ _ _ _ _ us its ws h1 h2 h3 => match us, its, ws, h1, h2, h3 with | [u0], [d0], [w0], _, _, _ => ⟨_, rfl, rfl⟩)
  exact ⟨_, fd, its, T.m_Listing, ok, T.g_Listing, b⟩
end
section
variable {X : Cx} {mg : Str → Option Value} {p pos kp : Pos} {e : Expr} {te : TE} {j : Nat}
theorem pe_mkk (T : Txt X.K X.mg) (hr : Room j X.A) (hk : 7 ≤ j) (hg : Gl X "Listing") (he : PE X e te) : PE X (.Call (.Name "Listing" p) [] [⟨some "entries", e, kp⟩] pos) (tMakeK (He.ga X.K "Listing") 0 1 (sp_Listing_init X.K) (fun vs zs => vs ++ zs) C8.E0 tNil (tCons te tNil)) := by
  obtain ⟨f, fd, its, M, F, hm, b⟩ := mkk_Listing (P := X.prog) (w := X.w) (base := X.base) T
  exact pe_makeK0 M F (hr.mono hk) hg hm b C8.pass0 (pk_cons he pk_nil)
end
/-! ### clashes of tables that hold the same -/
section
variable {U : List Ent} {t t' : ATab}
theorem fm_congr {α β : Type} {f g : α → List β} : ∀ {l : List α}, (∀ x ∈ l, f x = g x) → l.flatMap f = l.flatMap g
  | [], _ => rfl
  | x :: l, h => by rw [List.flatMap_cons, List.flatMap_cons, h x List.mem_cons_self, fm_congr fun y hy => h y (List.mem_cons_of_mem _ hy)]
def clK (t : ATab) (k : LKey) : List Clash := (List.range 5).flatMap fun i => if 1 < (look t k i).length then [(k, (FLD[i]?).getD (Str.ofString ""))] else []
theorem clK_len {k : LKey} : (clK t k).length ≤ 5 := by
  have := len_flat (c := 1) (l := List.range 5) (f := fun i => if 1 < (look t k i).length then [(k, (FLD[i]?).getD (Str.ofString ""))] else []) fun i _ => by
    by_cases h : 1 < (look t k i).length
    · rw [if_pos h]; exact Nat.le_refl _
    · rw [if_neg h]; exact Nat.zero_le _
  rw [List.length_range] at this
  unfold clK
  omega
theorem cl_row (o : TabOk U t) {r : LKey × List (List Th)} (hr : r ∈ t) : clRow r 5 = clK t r.1 := by
  unfold clRow clK
  refine fm_congr fun i hi => ?_
  have h5 := o.five r hr
  have hi : i < 5 := List.mem_range.mp hi
  have hms : r.2[i]? = some (r.2[i]'(by omega)) := List.getElem?_eq_getElem (by omega)
  rw [look_of (r := r) o.nod hr hms, hms]
  rfl
theorem cl_keys (o : TabOk U t) : clashesOf t = (t.map (·.1)).flatMap (clK t) := by
  unfold clashesOf
  rw [List.flatMap_map]
  exact fm_congr fun r hr => cl_row o hr
theorem Same.clK (h : Same t t') : clK t = clK t' := by
  funext k
  unfold TW.clK
  refine fm_congr fun i _ => ?_
  rw [(h.th k i).length_eq]
theorem Same.cl (h : Same t t') (o : TabOk U t) (o' : TabOk U t') : sortC (clashesOf t) = sortC ((TW.sortK (t'.map (·.1))).flatMap (TW.clK t')) := by
  refine sortC_perm ?_
  rw [cl_keys o, h.clK]
  exact ((h.keys o o').trans (List.mergeSort_perm _ _).symm).flatMap_right _
theorem word_low {z : Str} (h : inAl sLET z) : ∀ c ∈ z.cps.toList, c < 16 ^ 8 := by
  have key : ∀ c ∈ sLET.cps.toList, c < 16 ^ 8 := by decide +kernel
  exact fun c hc => key c (h c hc)
theorem fld_low (i : Nat) : (∀ c ∈ ((FLD[i]?).getD (Str.ofString "")).cps.toList, c < 16 ^ 8) ∧ ((FLD[i]?).getD (Str.ofString "")).cps.size ≤ 7 := by
  rcases i with _ | _ | _ | _ | _ | i
  · decide +kernel
  · decide +kernel
  · decide +kernel
  · decide +kernel
  · decide +kernel
  · rw [show FLD[i + 1 + 1 + 1 + 1 + 1]? = none from List.getElem?_eq_none (by show 5 ≤ _; omega)]
    decide +kernel
structure ClOk (c : Clash) : Prop where
  key : KeyOk c.1
  low : ∀ x ∈ c.2.cps.toList, x < 16 ^ 8
  len : c.2.cps.size ≤ 7
theorem cl_ok (o : TabOk U t) (uo : UOk U) : ∀ c ∈ clashesOf t, ClOk c := fun c hc => by
  obtain ⟨r, hr, hc⟩ := List.mem_flatMap.mp hc
  unfold clRow at hc
  obtain ⟨i, _, hc⟩ := List.mem_flatMap.mp hc
  by_cases h : 1 < ((r.2[i]?).getD []).length
  · rw [if_pos h] at hc
    rw [List.mem_singleton.mp hc]
    exact ⟨o.okK uo hr, (fld_low i).1, (fld_low i).2⟩
  · rw [if_neg h] at hc; cases hc
def csD (cs : List Clash) : PyData := .tuple (cs.map cdat)
theorem log_small {n : Nat} (h : n < 10 ^ 31) : n.log2 < 1920 := by
  by_cases h0 : n = 0
  · subst h0; decide
  · exact (Nat.log2_lt h0).mpr (Nat.lt_trans h (by decide +kernel))
theorem cl_showable : ∀ {cs : List Clash}, (∀ c ∈ cs, ClOk c) → PyData.showableAll (cs.map cdat) = true
  | [], _ => rfl
  | c :: cs, h => by
    rw [List.map_cons, PyData.showableAll, cl_showable fun x hx => h x (List.mem_cons_of_mem _ hx)]
    have k := (h c List.mem_cons_self).key
    have : c.1.2.natAbs < 10 ^ 31 := by have := k.lo; have := k.hi; omega
    simp only [cdat, PyData.showable, PyData.showableAll, decide_eq_true (log_small this), Bool.and_self]
theorem cl_nodict : ∀ {cs : List Clash}, PyData.hasDictAll (cs.map cdat) = false
  | [] => rfl
  | c :: cs => by
    rw [List.map_cons, PyData.hasDictAll, cl_nodict]
    simp [cdat, PyData.hasDict, PyData.hasDictAll]
theorem cl_depth : ∀ {cs : List Clash}, PyData.depthAll (cs.map cdat) ≤ 2
  | [] => by simp [PyData.depthAll]
  | c :: cs => by
    have := cl_depth (cs := cs)
    rw [List.map_cons, PyData.depthAll]
    have := depth_cl c
    omega
theorem cl_leaves : ∀ {cs : List Clash}, (∀ c ∈ cs, ClOk c) → PyData.leavesShortAll 40 (cs.map cdat) = true
  | [], _ => rfl
  | c :: cs, h => by
    rw [List.map_cons, PyData.leavesShortAll, cl_leaves fun x hx => h x (List.mem_cons_of_mem _ hx)]
    have ok := h c List.mem_cons_self
    have h1 : (c.1.1.cps.toList.all fun x => decide (x < 16 ^ 8)) = true := List.all_eq_true.mpr fun x hx => decide_eq_true (word_low ok.key.house.al x hx)
    have h2 : (c.2.cps.toList.all fun x => decide (x < 16 ^ 8)) = true := List.all_eq_true.mpr fun x hx => decide_eq_true (ok.low x hx)
    have h3 : (PyData.shown (.int c.1.2)).length ≤ 40 := by
      have := dec_len (i := c.1.2) ok.key.lo (k := 31) (by decide) ok.key.hi
      have : (PyData.shown (.int c.1.2)).length ≤ 31 := this
      omega
    have e : PyData.leavesShort 40 (cdat c) = ((c.1.1.cps.toList.all fun x => decide (x < 16 ^ 8)) && (decide ((PyData.shown (.int c.1.2)).length ≤ 40) && ((c.2.cps.toList.all fun x => decide (x < 16 ^ 8)) && true))) := by
      simp only [cdat, PyData.leavesShort, PyData.leavesShortAll]
    rw [e, h1, h2, decide_eq_true h3]
    rfl
theorem cl_bulk : ∀ {cs : List Clash}, (∀ c ∈ cs, ClOk c) → PyData.bulkAll (cs.map cdat) ≤ 20 * cs.length
  | [], _ => by simp [PyData.bulkAll]
  | c :: cs, h => by
    have ih := cl_bulk (cs := cs) fun x hx => h x (List.mem_cons_of_mem _ hx)
    have ok := h c List.mem_cons_self
    have h1 : c.1.1.cps.size ≤ 8 := ok.key.house.hi
    have h2 := ok.len
    have e : (cdat c).bulk = c.1.1.cps.size + 1 + (0 + 1 + (c.2.cps.size + 1 + 0)) := by
      simp only [cdat, PyData.bulk, PyData.bulkAll]
    rw [List.map_cons, PyData.bulkAll, List.length_cons, e]
    omega
theorem cl_shown {cs : List Clash} (h : ∀ c ∈ cs, ClOk c) (l : cs.length ≤ 5000) : (csD cs).showable = true ∧ (csD cs).hasDict = false ∧ (csD cs).depth ≤ 40 ∧ (csD cs).shown.length ≤ sizeLine := by
  refine ⟨?_, ?_, ?_, ?_⟩
  · simp only [csD, PyData.showable]; exact cl_showable h
  · simp only [csD, PyData.hasDict]; exact cl_nodict
  · have := cl_depth (cs := cs)
    simp only [csD, PyData.depth]; omega
  · have h1 := PyData.shown_le_bulk 40 (by decide) (csD cs) (by simp only [csD, PyData.leavesShort]; exact cl_leaves h)
    have h2 := cl_bulk h
    have h3 : (csD cs).bulk = PyData.bulkAll (cs.map cdat) := by simp only [csD, PyData.bulk]
    refine Nat.le_trans h1 (Nat.le_trans (m := 42 * (20 * 5000) + 40) ?_ (by decide))
    rw [h3]
    omega
end
/-! ### marked entries as data -/
theorem canLay_o {o : Option Th} (h : ∀ th, o = some th → ∃ i, Th.ok i th) : (odat o).canLay0 = true := by
  cases o with
  | none => rfl
  | some th => obtain ⟨i, h⟩ := h th rfl; exact canLay_th h
theorem depth_o (o : Option Th) : (odat o).depth ≤ 2 := by
  cases o with
  | none => simp [odat, PyData.depth]
  | some th => exact depth_th th
theorem canLay_ent {e : Ent} (ok : EntOk e) : (edat e).canLay0 = true := by
  have : PyData.canLayAll0 (e.th.map odat) = true := canLayAll_map fun o ho => canLay_o fun th hth => by
    obtain ⟨i, hi⟩ := List.mem_iff_getElem?.mp ho
    exact ⟨i, ok.each i th (by rw [hi, hth])⟩
  simp only [edat, PyData.canLay0, PyData.canLayAll0, this, ok_LET ok.key.house.al, Bool.and_self]
theorem depth_ent (e : Ent) : (edat e).depth ≤ 4 := by
  have := depthAll_map (l := e.th) (mk := odat) (c := 2) fun o _ => depth_o o
  simp only [edat, PyData.depth, PyData.depthAll]
  omega
theorem ents_shaped {es : List Ent} (ok : ∀ e ∈ es, EntOk e) : SeqAt.shaped (.list (es.map edat)) = true := shaped_list (c := 4) (fun e h => canLay_ent (ok e h)) (fun e _ => depth_ent e) (by decide)
theorem ents_self {es : List Ent} (ok : ∀ e ∈ es, EntOk e) : PyData.eqv (.list (es.map edat)) (.list (es.map edat)) = true := by
  have h := ents_shaped ok
  unfold SeqAt.shaped at h
  rw [Bool.and_eq_true] at h
  exact SeqAt.eqv_refl _ h.1
end TW
set_option Elab.async false
set_option linter.all false
set_option maxRecDepth 100000
set_option maxHeartbeats 4000000
namespace TW
open PySem PySem.Spec PyProof.Rows L2
section
variable {P : Program} {w : World} {K : PySem.W.Frag} {mg : Str → Option Value} {base : Heap}
open LamX

def sp_law_sums_right (K : PySem.W.Frag) (P : Program) (w : World) : Sp := fun vs H Q _ => ∃ (p d : Addr) (t t' : ATab) (U : List Ent), vs = [.ref p, .ref d] ∧ LisU K H p t ∧ DueAt P w H d t' ∧ UOk U ∧ TabOk U t ∧ TabOk U t' ∧ Same t t' ∧ ∀ H', Ext H H' → Q (.bl true) H'

theorem dkeys_vd {H : Hp} : ∀ {kvs : List (List Key × V)} {T : DTab} {as : List Addr}, DTabAt P w H kvs T → IsKeys H kvs as → Paired (KeyAt H) (as.map V.ref) ((absD T).map (·.1)) ∧ keyVD kvs as = ((as.map V.ref).zip ((absD T).map (·.1))).map fun p => (p.1, kdat p.2)
  | _, _, _, .nil, .nil => ⟨.nil, rfl⟩
  | _, _, _, .cons (a := kv) (b := t) (l₁ := kvs) (l₂ := T) a r, .cons (b := b) (l₂ := bs) h r' => by
    obtain ⟨i1, i2⟩ := dkeys_vd r r'
    refine ⟨.cons ⟨b, rfl, ?_⟩ i1, ?_⟩
    · rw [a.1] at h; exact h
    · show (V.ref b, tdata kv.1) :: keyVD kvs bs = (V.ref b, kdat t.1) :: _
      rw [i2, a.1]
      rfl
theorem dsrt_keys {H : Hp} {kvs : List (List Key × V)} {T : DTab} {as : List Addr} (h : DTabAt P w H kvs T) (hk : IsKeys H kvs as) : Paired (KeyAt H) (srt (keyVD kvs as)) (sortK ((absD T).map (·.1))) := by
  obtain ⟨h1, h2⟩ := dkeys_vd h hk
  rw [h2]
  exact srt_prd h1
theorem dkeys_dat {H : Hp} : ∀ {kvs : List (List Key × V)} {T : DTab}, DTabAt P w H kvs T → (kvs.map fun p => tdata p.1) = ((absD T).map (·.1)).map kdat
  | _, _, .nil => rfl
  | _, _, .cons (a := kv) (b := t) (l₁ := kvs) (l₂ := T) a r => by
    show tdata kv.1 :: (kvs.map fun p => tdata p.1) = kdat t.1 :: _
    rw [dkeys_dat r, a.1]
    rfl
theorem due_get {H : Hp} {d q : Addr} {kvs : List (List Key × V)} {T : DTab} {k : LKey} (h : DTabAt P w H kvs T) (hk : hasK (absD T) k = true) (hd : H d = some (.dT kvs)) (hq : H q = some (.tup (kvals k))) :
    ∃ (v : V) (r : DRow), DGet H d (.ref q) (some v) ∧ DRowAt P w H v r ∧ (k, r.2.2) ∈ absD T := by
  cases hv : valV kvs (kkey k) with
  | none => have := (dtab_val h).2 hv; rw [hk] at this; cases this
  | some v =>
    obtain ⟨j, r, hj, hr⟩ := (dtab_val h).1 v hv
    exact ⟨v, r, .inr ⟨kvs, kkey k, q, .inl hd, rfl, hq, hv.symm⟩, hr, List.mem_map.mpr ⟨_, List.mem_of_getElem? hj, rfl⟩⟩
theorem hasK_sort {t : ATab} {k : LKey} (h : k ∈ sortK (t.map (·.1))) : hasK t k = true := by
  unfold sortK at h
  obtain ⟨r, hr, e⟩ := List.mem_map.mp (List.mem_mergeSort.mp h)
  exact hasK_iff.mpr ⟨r, hr, e⟩
theorem ok_law_sums_right (T : Txt K mg) : CalG P w K mg base 4 "_law_sums_right" (sp_law_sums_right K P w) := by
  obtain ⟨fd, F⟩ := T.d_law_sums_right
  refine calG_of F T.g_law_sums_right (fun _ _ _ _ _ _ us hl => match us, hl with | [_, _], _ => rfl) sc_law_sums_right (fun vs H Q E h => ?_) fun cdv A outer s H vs Q E hgd hr h => ?_
  · obtain ⟨p, d, t, t', U, rfl, hL, ⟨kvs, T1, hdic, htab, hT1⟩, uo, tok, tok', same, hq⟩ := h
    rfl
  · have hu := hu_of hr
    have hu64 := hr.units
    obtain ⟨p, d, t, t', U, rfl, hL, ⟨kvs, T1, hdic, htab, hT1⟩, uo, tok, tok', same, hq⟩ := h
    refine ⟨_, (pss_cons (ps_par (i := 5) (j := 6) (by rfl) sc_law_sums_right.nd rfl rfl (by decide) rfl rfl (pa_cons (pe_lst pa_nil) (pa_cons (pe_lst pa_nil) pa_nil)) (by rfl))
    (pss_cons (ps_for PassesOwn.never rfl (pi_list (pe_callB (cr_sortT rfl hu64) (by rfl) T.f_sorted (by decide +kernel) (pa_cons (pv 1) pa_nil))) (pg_name (i := 2) sc_law_sums_right.nd rfl (by first | exact Or.inl rfl | exact Or.inr rfl))
    (pss_cons (ps_setLc (i := 7) (own := [("_law_kept", 8)]) (by rfl) sc_law_sums_right.nd rfl rfl (sw_true rfl rfl rfl (by decide +kernel)) (pi_list (pe_dget hu (pv 1) (pv 2) (fun _ _ => rfl))) (blkOk_by (N := N_law_sums_right) (sc := defScope s_law_sums_right) (by decide +kernel)) (fun _ _ _ _ _ => (pg_name (i := 8) sc_law_sums_right.nd rfl (by first | exact Or.inl rfl | exact Or.inr rfl))) (fun _ _ _ _ _ => by exact pts_nil) (fun _ _ _ _ _ => by exact (pe_callTy (kListK P w K rfl) (by rfl) T.f_list (by decide +kernel) (pa_cons (pv 8) pa_nil))))
    (pss_cons (ps_expr (pe_bm PySem.F.plainAttrs_list PySem.F.slot_list_append PySem.F.type_list_append mt_append (pv 5) (pa_cons (pe_op op_catA (pv 2) (pe_callTy call_tuple_of (by rfl) T.f_tuple (by decide +kernel) (pa_cons (pe_lc (own := [("_law_one_here", 10)]) (by rfl) sc_law_sums_right.nd (pi_list (pv 7)) (blkOk_by (N := N_law_sums_right) (sc := defScope s_law_sums_right) (by decide +kernel)) (fun _ _ _ _ _ => (pg_name (i := 10) sc_law_sums_right.nd rfl (by first | exact Or.inl rfl | exact Or.inr rfl))) (fun _ _ _ _ _ => by exact pts_nil) (fun _ _ _ _ _ => by exact (pe_ifExp (pt_cmpR op_eq (pe_callB (kLen K) (by rfl) T.f_len (by decide +kernel) (pa_cons (pv 10) pa_nil)) pe_int (nomark _)) (pe_ix (kIxL K) (pv 10) pe_int (fun _ _ => rfl)) pe_non))) pa_nil))) pa_nil)))
    (pss_one (ps_expr (pe_bm PySem.F.plainAttrs_list PySem.F.slot_list_extend PySem.F.type_list_extend mt_extend (pv 6) (pa_cons (pe_lc (own := [("_law_field", 9), ("_law_one_here", 10)]) (by rfl) sc_law_sums_right.nd (pi_zipM true (by rfl) T.f_zip (pa_cons (pe_c0 (ok_law_fields T) hr (by decide) rfl) (pa_cons (pv 7) pa_nil))) (blkOk_by (N := N_law_sums_right) (sc := defScope s_law_sums_right) (by decide +kernel)) (fun _ _ _ _ _ => (kTup K (n := 2) (by rfl) (pgs_cons (pg_name (i := 9) sc_law_sums_right.nd rfl (by first | exact Or.inl rfl | exact Or.inr rfl)) (pgs_cons (pg_name (i := 10) sc_law_sums_right.nd rfl (by first | exact Or.inl rfl | exact Or.inr rfl)) pgs_nil)))) (fun _ _ _ _ _ => by exact (pts_one (pt_cmpR op_gt (pe_callB (kLen K) (by rfl) T.f_len (by decide +kernel) (pa_cons (pv 10) pa_nil)) pe_int (nomark _)))) (fun _ _ _ _ _ => by exact (pe_op (kCatA K) (pv 2) (pe_tup (pa_cons (pv 9) pa_nil))))) pa_nil)))))))
    (pss_cons (ps_set (i := 3) sc_law_sums_right.nd rfl (by first | exact Or.inl rfl | exact Or.inr rfl) (C8.pe_mt0 (ok_Listing_entries T) hr (by decide) (pv 0)))
    (pss_cons (ps_if (PW.pt (pw_or (pt_not (pt_val (pe_callB call_isi (by rfl) T.f_isinstance (by decide +kernel) (pa_cons (pv 3) (pa_cons (pe_bltn (v := .ty "tuple") (u := .type "tuple") (by rfl) T.f_tuple (by decide +kernel) rfl) pa_nil))))) (pw_or1 (pt_cmpR (op_neD hu64) (pe_lc (own := [("_law_entry_here", 4)]) (by rfl) sc_law_sums_right.nd (pi_tup (pv 3)) (blkOk_by (N := N_law_sums_right) (sc := defScope s_law_sums_right) (by decide +kernel)) (fun _ _ _ _ _ => (pg_name (i := 4) sc_law_sums_right.nd rfl (by first | exact Or.inl rfl | exact Or.inr rfl))) (fun _ _ _ _ _ => by exact pts_nil) (fun _ _ _ _ _ => by exact (C8.pe_c (ok_law_marked T) hr (by decide) rfl (pa_cons (pv 4) pa_nil)))) (pv 5) (nomark _))))) (pss_one (ps_ret pe_bl)) pss_nil)
    (pss_cons (ps_for PassesOwn.never rfl (pi_tup (pv 3)) (pg_name (i := 4) sc_law_sums_right.nd rfl (by first | exact Or.inl rfl | exact Or.inr rfl))
    (pss_cons (ps_if (PW.pt (pw_and (pt_cmpR op_notN (pe_ix ix_tup (pv 4) pe_int (fun _ _ => rfl)) pe_non (nomark _)) (pw_and1 (pt_not (pt_val (pe_callB call_isi (by rfl) T.f_isinstance (by decide +kernel) (pa_cons (pe_ix ix_tup (pv 4) pe_int (fun _ _ => rfl)) (pa_cons (pe_glob (v := .ref (He.ga K "Day")) rfl T.g_Day rfl) pa_nil)))))))) (pss_one (ps_ret pe_bl)) pss_nil)
    (pss_one (ps_if (PW.pt (pw_and (pt_cmpR op_notN (pe_ix ix_tup (pv 4) pe_int (fun _ _ => rfl)) pe_non (nomark _)) (pw_and1 (pt_not (pt_val (pe_callB call_isi (by rfl) T.f_isinstance (by decide +kernel) (pa_cons (pe_ix ix_tup (pv 4) pe_int (fun _ _ => rfl)) (pa_cons (pe_glob (v := .ref (He.ga K "Length")) rfl T.g_Length rfl) pa_nil)))))))) (pss_one (ps_ret pe_bl)) pss_nil))))
    (pss_cons (ps_if (pt_cmpR op_ne (pe_callB (cr_reprD (by exact hgd) hr) (by rfl) T.f_repr (by decide +kernel) (pa_cons (C8.pe_mt0 (ok_Listing_clashes T) hr (by decide) (pv 0)) pa_nil)) (pe_callB (cr_reprD (by exact hgd) hr) (by rfl) T.f_repr (by decide +kernel) (pa_cons (pe_callTy call_tuple_of (by rfl) T.f_tuple (by decide +kernel) (pa_cons (pe_callB (cr_sortL hu64) (by rfl) T.f_sorted (by decide +kernel) (pa_cons (pv 6) pa_nil)) pa_nil)) pa_nil)) (nomark _)) (pss_one (ps_ret pe_bl)) pss_nil)
    (pss_one (ps_ret (pe_cmpR op_eq (pe_callB (cr_reprI (ok_Listing_repr T) (hr.mono (by decide))) (by rfl) T.f_repr (by decide +kernel) (pa_cons (pv 0) pa_nil)) (pe_op op_add_str (pe_op op_add_str pe_str (pe_callTy call_str_int (by rfl) T.f_str (by decide +kernel) (pa_cons (pe_callB call_len_dT (by rfl) T.f_len (by decide +kernel) (pa_cons (pv 1) pa_nil)) pa_nil))) pe_str) (nomark _)))))))))), ?_⟩
    subst hT1
    refine ⟨by show 0 ≤ sizeLine; decide, fun ra hra => ⟨by show 0 ≤ sizeLine; decide, fun ca hca => ⟨_, _, rfl, ?_⟩⟩⟩
    refine next_ok ?_
    dsimp only
    have nrc : ra ≠ ca := fun e => by rw [← e, upd_same] at hca; cases hca
    have hra0 := hra
    have hca0 : H ca = none := Ext.free (Ext.upd hra) hca
    generalize hG : upd (upd H ra _) ca _ = G
    have e0 : Ext H G := by rw [← hG]; exact (Ext.upd hra).trans (Ext.upd hca)
    have gra : G ra = some (.lst []) := by rw [← hG, upd_ne nrc, upd_same]
    have gca : G ca = some (.lst []) := by rw [← hG, upd_same]
    clear hG hra hca
    obtain ⟨dx, dl, kvsL, TL, hins, hdicL, htabL, htL⟩ := id hL
    have htabE : ∀ {H'}, Ext H H' → DTabAt P w H' kvs T1 := fun e => htab.extD (ExtD.of e)
    refine seq_cut (fun σ H' => ∃ (s2 s3 s4 s7 s8 s9 s10 : Option V) (ws cs : List V), σ = [some (.ref p), some (.ref d), s2, s3, s4, some (.ref ra), some (.ref ca), s7, s8, s9, s10] ∧ Ext H H' ∧ H' ra = some (.lst ws) ∧ H' ca = some (.lst cs) ∧ Paired (MEAt H') ws (entsOf (absD T1)) ∧ Paired (ClAt H') cs ((sortK ((absD T1).map (·.1))).flatMap (clK (absD T1)))) (fun N hN => ?_) (fun σ H' hP => ?_)
    · refine ⟨_, rfl, d, kvs, rfl, .inl (e0 _ _ hdic), (by rw [dkeys_dat htab]; exact alike_keys _), (by rw [dkeys_dat htab]; exact sortable_keys _), fun kv hkv => ?_, fun q as hq0 hk => ⟨q, rfl, ⟨_, SqL.of upd_same⟩, ?_⟩⟩
      · have : tdata kv.1 ∈ kvs.map fun p => tdata p.1 := List.mem_map.mpr ⟨kv, hkv, rfl⟩
        rw [dkeys_dat htab] at this
        obtain ⟨k, _, e⟩ := List.mem_map.mp this
        rw [← e]
        exact Nat.le_trans (depth_key k) (by decide)
      have hsp := dsrt_keys (htabE e0) hk
      generalize hks : sortK ((absD T1).map (·.1)) = ks at hsp hN
      have hkm : ∀ k ∈ ks, hasK (absD T1) k = true := fun k h => hasK_sort (by rw [hks]; exact h)
      have kl : ks.length ≤ 1000 := by
        rw [← hks]
        unfold sortK
        rw [List.length_mergeSort, List.length_map]
        exact tok'.len uo
      generalize srt (keyVD kvs as) = VS at hsp
      have vl := prd_len hsp
      have nqr : q ≠ ra := (ne_of_none gra hq0).symm
      have nqc : q ≠ ca := (ne_of_none gca hq0).symm
      have e1 : Ext G (upd G q (.lst VS)) := Ext.upd hq0
      have gq : upd G q (.lst VS) q = some (.lst VS) := upd_same
      generalize upd G q (.lst VS) = G1 at e1 gq
      refine for_src (src_list (xs := VS)) (fun i σ H' => ∃ (s2 s3 s4 s7 s8 s9 s10 : Option V) (ws cs : List V), σ = [some (.ref p), some (.ref d), s2, s3, s4, some (.ref ra), some (.ref ca), s7, s8, s9, s10] ∧ Ext H H' ∧ Imm G H' ∧ H' q = some (.lst VS) ∧ H' ra = some (.lst ws) ∧ H' ca = some (.lst cs) ∧ Paired (MEAt H') ws ((ks.take i).map (entOf (absD T1))) ∧ Paired (ClAt H') cs ((ks.take i).flatMap (clK (absD T1))))
        ⟨_, _, _, _, _, _, _, [], [], rfl, e0.trans e1, Imm.of e1, gq, e1 _ _ gra, e1 _ _ gca, .nil, .nil⟩ (fun i σ H' _ ⟨_, _, _, _, _, _, _, _, _, _, _, _, a, _⟩ => SqL.of a) (fun i x σ H2 H3 hi hP hy => ?_) fun σ H' hP => ?_
      · obtain ⟨rfl, hx⟩ := hy
        obtain ⟨s2, s3, s4, s7, s8, s9, s10, ws, cs, rfl, e2, im2, hq2, hra2, hca2, hwp, hcp⟩ := hP
        obtain ⟨k, hki, kk, rfl, hkk⟩ := prd_get hsp hx
        have hkk := im2 _ _ hkk rfl
        have hkm' := hkm k (List.mem_of_getElem? hki)
        obtain ⟨v, r, hget, hrow, hmem⟩ := due_get (htabE e2) hkm' (e2 _ _ hdic) hkk
        obtain ⟨kr, ds, cs5⟩ := r
        obtain rfl := hrow.ref
        have l5 : ds.length = 5 := hrow.l5
        have c5 : cs5.length = 5 := hrow.c5
        have hlook : ∀ (m : Nat) (ms : List Th), cs5[m]? = some ms → look (absD T1) k m = ms := fun m ms h => look_of tok'.nod hmem h
        have iks : i < ks.length := by rw [← vl]; exact hi
        have wsl : ws.length = i := by rw [prd_len hwp, List.length_map, List.length_take]; omega
        have csl : cs.length ≤ 5 * i := by
          rw [prd_len hcp]
          have := len_flat (c := 5) (l := ks.take i) (f := clK (absD T1)) fun k _ => clK_len
          rw [List.length_take] at this
          omega
        refine ⟨_, rfl, _, rfl, d, .ref kr, rfl, hget, kr, rfl, ⟨_, SqL.of hrow.lst⟩, fun D hD => ?_⟩
        have nDr : D ≠ ra := (ne_of_none hra2 hD).symm
        have nDc : D ≠ ca := (ne_of_none hca2 hD).symm
        refine lc_src (src_list (xs := ds.map V.ref)) (fun m H' => Ext H3 H' ∧ ∃ zs, H' D = some (.lst zs) ∧ zs.length = m ∧ ∀ (j : Nat) (z : V), zs[j]? = some z → ∃ (l : Addr) (us : List V) (ms : List Th), z = .ref l ∧ l ≠ ra ∧ l ≠ ca ∧ l ≠ D ∧ H' l = some (.lst us) ∧ cs5[j]? = some ms ∧ Paired (MkAt H') us ms) ⟨Ext.upd hD, [], upd_same, rfl, fun j z h => by simp at h⟩ (fun m H' _ h => SqL.of (h.1 _ _ hrow.lst)) (fun m x H4 H5 hm h hy => ?_) fun H4 h => ?_
        · obtain ⟨rfl, hx'⟩ := hy
          obtain ⟨e4, zs, hD4, zl, hz⟩ := h
          rw [List.length_map, l5] at hm
          obtain ⟨l0, hl0, rfl⟩ : ∃ l, ds[m]? = some l ∧ x = .ref l := by
            rw [List.getElem?_map] at hx'
            cases hl : ds[m]? with
            | none => rw [hl] at hx'; cases hx'
            | some l => rw [hl] at hx'; exact ⟨l, rfl, (Option.some.inj hx').symm⟩
          obtain ⟨ms, hms⟩ : ∃ ms, cs5[m]? = some ms := ⟨_, List.getElem?_eq_getElem (by rw [c5]; exact hm)⟩
          have mok : ∀ th ∈ ms, Th.ok m th := fun th h => tok'.okT uo hmem hms h
          obtain ⟨bs, k1, _, _, _, _, k6⟩ := map_sort (K := K) ((hrow.map m l0 ms hl0 hms).ext e4) mok
          refine ⟨rfl, _, rfl, l0, bs, rfl, k1, fun l hl => ?_⟩
          have f5 : Ext H5 (upd H5 l (.lst (bs.map Prod.fst))) := Ext.upd hl
          have lD : l ≠ D := (ne_of_none hD4 hl).symm
          have lr : l ≠ ra := (ne_of_none (e4 _ _ hra2) hl).symm
          have lc : l ≠ ca := (ne_of_none (e4 _ _ hca2) hl).symm
          refine ⟨zs, f5 _ _ hD4, by rw [zl]; exact Nat.lt_trans hm (by decide), Ext.mut (e4.trans f5) hD, zs ++ [.ref l], upd_same, by rw [List.length_append, zl]; rfl, fun j z hz' => ?_⟩
          have im6 : Imm H5 (upd (upd H5 l (.lst (bs.map Prod.fst))) D (.lst (zs ++ [.ref l]))) := (Imm.of f5).trans (imm_lst (f5 _ _ hD4))
          by_cases hj : j < zs.length
          · rw [List.getElem?_append_left hj] at hz'
            obtain ⟨l', us, ms', a1, a2, a3, a4, a5, a6, a7⟩ := hz j z hz'
            exact ⟨l', us, ms', a1, a2, a3, a4, by rw [upd_ne a4]; exact f5 _ _ a5, a6, prd_mono (fun _ _ z => MkAt.imm im6 z) a7⟩
          · rw [List.getElem?_append_right (by omega)] at hz'
            have e' : j - zs.length = 0 := by
              rcases Nat.eq_zero_or_pos (j - zs.length) with h | h
              · exact h
              · rw [List.getElem?_eq_none (by simp; omega)] at hz'; cases hz'
            rw [e'] at hz'
            have ez : V.ref l = z := by simpa using hz'
            have ej : j = m := by omega
            subst ej
            exact ⟨l, _, ms, ez.symm, lr, lc, lD, by rw [upd_ne lD, upd_same], hms, prd_mono (fun _ _ z => MkAt.imm im6 z) k6⟩
        obtain ⟨e4, zs, hD4, zl, hz⟩ := h
        rw [List.length_map, l5] at zl
        have hat : ∀ j, j < 5 → ∃ (l : Addr) (us : List V) (ms : List Th), zs[j]? = some (.ref l) ∧ l ≠ ra ∧ l ≠ ca ∧ l ≠ D ∧ H4 l = some (.lst us) ∧ cs5[j]? = some ms ∧ Paired (MkAt H4) us ms := fun j hj => by
          obtain ⟨l, us, ms, a1, a2⟩ := hz j _ (List.getElem?_eq_getElem (by rw [zl]; exact hj))
          exact ⟨l, us, ms, by rw [← a1]; exact List.getElem?_eq_getElem (by rw [zl]; exact hj), a2⟩
        dsimp only
        have hra4 := e4 _ _ hra2
        have hca4 := e4 _ _ hca2
        have hkk4 := e4 _ _ hkk
        refine ⟨_, rfl, .inl ⟨rfl, _, SqL.of hra4⟩, _, rfl, _, rfl, D, rfl, ⟨_, SqL.of hD4⟩, fun D2 hD2 => ?_⟩
        refine lc_map (src_list (xs := zs)) (fun _ => False) (fun m z H' => OMkAt H' z (sureOf (look (absD T1) k m))) (fun _ _ => True) hD2 (fun z => z) (by rw [zl]; decide) (fun m z H H' im h => h.imm im) (fun _ _ _ h => h) True.intro (fun m H' _ k _ => SqL.of (Kp.ext k _ _ hD4)) (fun _ _ _ _ k => Imm.of (Kp.ext k)) (fun m z H8 H9 hm kp _ hy Q' qq => ?_) fun H5 ys kp hD5 hl5 hr5 _ => ?_
        · obtain ⟨rfl, hzm⟩ := hy
          rw [zl] at hm
          obtain ⟨l, us, ms, a1, a2, a3, a4, a5, a6, a7⟩ := hat m hm
          rw [hzm] at a1
          cases a1
          have e9 := Kp.ext kp
          have a5 := e9 _ _ a5
          have a7 := prd_mono (fun _ _ z => MkAt.imm (Imm.of e9) z) a7
          rw [hlook m ms a6] at qq
          refine ⟨rfl, _, rfl, _, us.length, rfl, .inl ⟨us, SqL.of a5, rfl⟩, rfl, _, rfl, ?_⟩
          cases a7 with
          | nil => exact if_decF (by decide) (qq _ _ Kp.rfl' rfl True.intro)
          | cons a t => cases t with
            | nil => exact if_decT rfl ⟨_, rfl, l, _, 0, _, rfl, rfl, SqL.of a5, rfl, qq _ _ Kp.rfl' a True.intro⟩
            | cons b t =>
              refine if_decF (fun z => ?_) (qq _ _ Kp.rfl' rfl True.intro)
              simp at z
              omega
        rw [zl] at hl5
        have e5 := Kp.ext kp
        refine ⟨D2, ys, rfl, .inl ⟨SqL.of hD5, fun tu htu => ?_⟩⟩
        have f5 : Ext H5 (upd H5 tu (.tup ys)) := Ext.upd htu
        refine ⟨kk, tu, kvals k, ys, rfl, rfl, SqT.of ((e5.trans f5) _ _ hkk4), SqT.of upd_same, (by rw [hl5]; show 2 + 5 ≤ sizeLine; decide), (fun z => nomatch z), (fun _ z => by rw [z] at hl5; cases hl5), fun _ _ c hc => ?_⟩
        have f6 : Ext H5 (upd (upd H5 tu (.tup ys)) c (.tup (kvals k ++ ys))) := f5.trans (Ext.upd hc)
        have hcc : upd (upd H5 tu (.tup ys)) c (.tup (kvals k ++ ys)) c = some (.tup (kvals k ++ ys)) := upd_same
        generalize upd (upd H5 tu (.tup ys)) c (.tup (kvals k ++ ys)) = H6 at f6 hcc
        have f46 : Ext H4 H6 := e5.trans f6
        refine ⟨ra, ws, _, rfl, rfl, f46 _ _ hra4, by rw [wsl]; exact Nat.lt_of_lt_of_le iks (Nat.le_trans kl (by decide)), ?_⟩
        refine next_ok ?_
        dsimp only
        have me : MEAt H6 (.ref c) (entOf (absD T1) k) := ⟨c, ys, rfl, hcc, prd_ix (by rw [hl5]; rfl) fun m z o h1 h2 => by
          have h2 : ((List.range 5).map fun i => sureOf (look (absD T1) k i))[m]? = some o := h2
          have hm5 : m < 5 := by have := (List.getElem?_eq_some_iff.mp h1).1; omega
          rw [List.getElem?_map, List.getElem?_range hm5] at h2
          cases h2
          exact (hr5 m z h1).imm (Imm.of f6)⟩
        have im7 : Imm H6 (upd H6 ra (.lst (ws ++ [.ref c]))) := imm_lst (f46 _ _ hra4)
        have hra7 : upd H6 ra (.lst (ws ++ [.ref c])) ra = some (.lst (ws ++ [.ref c])) := upd_same
        have k7 : ∀ {b o}, b ≠ ra → H4 b = some o → upd H6 ra (.lst (ws ++ [.ref c])) b = some o := fun n h => by rw [upd_ne n]; exact f46 _ _ h
        have E7 : Ext H (upd H6 ra (.lst (ws ++ [.ref c]))) := Ext.mut ((e2.trans e4).trans f46) hra0
        have IM7 : Imm H4 (upd H6 ra (.lst (ws ++ [.ref c]))) := (Imm.of f46).trans im7
        generalize upd H6 ra (.lst (ws ++ [.ref c])) = H7 at im7 hra7 k7 E7 IM7
        have hca7 := k7 nrc.symm hca4
        have hq7 := k7 nqr (e4 _ _ hq2)
        have hD7 := k7 nDr hD4
        have hkk7 := IM7 _ _ hkk4 rfl
        have hat7 : ∀ j, j < 5 → ∃ (l : Addr) (us : List V) (ms : List Th), zs[j]? = some (.ref l) ∧ H7 l = some (.lst us) ∧ cs5[j]? = some ms ∧ Paired (MkAt H7) us ms := fun j hj => by
          obtain ⟨l, us, ms, a1, a2, a3, a4, a5, a6, a7⟩ := hat j hj
          exact ⟨l, us, ms, a1, k7 a2 a5, a6, prd_mono (fun _ _ z => MkAt.imm IM7 z) a7⟩
        have wp7 : Paired (MEAt H7) (ws ++ [.ref c]) ((ks.take (i + 1)).map (entOf (absD T1))) := by
          rw [List.take_add_one, hki, List.map_append]
          exact prd_app (prd_mono (fun _ _ z => MEAt.imm ((Imm.of e4).trans IM7) z) hwp) (.cons (me.imm im7) .nil)
        have cp7 := prd_mono (fun _ _ z => ClAt.imm ((Imm.of e4).trans IM7) z) hcp
        have IMG7 : Imm G H7 := im2.trans ((Imm.of e4).trans IM7)
        refine ⟨_, rfl, .inl ⟨rfl, _, SqL.of hca7⟩, rfl, fun fp Hf ef hfp tfp => ⟨_, rfl, fp, D, _, zs, rfl, SqT.of tfp, SqL.of (ef _ _ hD7), fun D3 hD3 => ?_⟩⟩
        refine lc_src (src_zipM (n := 5) rfl zl.symm) (fun j H' => Ext Hf H' ∧ ∃ acc, H' D3 = some (.lst acc) ∧ Paired (ClAt H') acc (clRow (k, cs5) j)) ⟨Ext.upd hD3, [], upd_same, .nil⟩ (fun j H' _ h => ⟨SqT.of (h.1 _ _ tfp), SqL.of (h.1 _ _ (ef _ _ hD7))⟩) (fun j x X1 X2 hj h hy => ?_) fun X1 h => ?_
        · obtain ⟨T6, x1, y1, rfl, hT6, rfl, hx1, hy1⟩ := hy
          obtain ⟨g1, acc, hacc, hap⟩ := h
          obtain ⟨f, rfl, hf⟩ := fld_str hx1
          obtain ⟨l, us, ms, a1, a2, a3, a4⟩ := hat7 j hj
          rw [hy1] at a1
          cases a1
          have g6 : Ext X1 (upd X1 T6 (.tup [.str f, .ref l])) := Ext.upd hT6
          have tt6 : upd X1 T6 (.tup [.str f, .ref l]) T6 = some (.tup [.str f, .ref l]) := upd_same
          generalize upd X1 T6 (.tup [.str f, .ref l]) = X3 at g6 tt6
          have E3 := g1.trans g6
          have hus := (ef.trans E3) _ _ a2
          have hul := prd_len a4
          have hal : acc.length < sizeLine := by
            rw [prd_len hap]
            exact Nat.lt_of_le_of_lt clRow_len (Nat.lt_trans hj (by show 5 < sizeLine; decide))
          refine ⟨T6, _, rfl, SqT.of tt6, rfl, _, _, rfl, _, _, rfl, rfl, rfl, _, rfl, _, us.length, rfl, .inl ⟨us, SqL.of hus, rfl⟩, _, _, rfl, rfl, _, rfl, ?_⟩
          have hs := clRow_succ (k, cs5) j
          rw [show ((k, cs5).2[j]?).getD [] = ms by rw [a3]; rfl, show (FLD[j]?).getD (Str.ofString "") = f by rw [hf]; rfl] at hs
          have hacc3 := g6 _ _ hacc
          by_cases hc1 : 1 < ms.length
          · rw [if_pos hc1] at hs
            refine if_decT (by omega) ⟨_, rfl, _, rfl, by show 1 ≤ sizeLine; decide, fun t1 ht1 => ?_⟩
            refine ⟨kk, t1, kvals k, _, rfl, rfl, SqT.of ((Ext.upd ht1) _ _ ((ef.trans E3) _ _ hkk7)), SqT.of upd_same, (by show 2 + 1 ≤ sizeLine; decide), (fun z => nomatch z), (fun _ z => nomatch z), fun _ _ c' hc' => ?_⟩
            have e7 : Ext X3 (upd (upd X3 t1 (.tup [.str f])) c' (.tup (kvals k ++ [.str f]))) := (Ext.upd ht1).trans (Ext.upd hc')
            refine ⟨acc, e7 _ _ hacc3, hal, Ext.mut (E3.trans e7) hD3, _, upd_same, ?_⟩
            rw [hs]
            have cD : c' ≠ D3 := fun z => by rw [z] at hc'; have := (Ext.upd ht1 (o := .tup [.str f])) _ _ hacc3; rw [hc'] at this; cases this
            exact prd_app (prd_mono (fun _ _ q => q.imm ((Imm.of (g6.trans e7)).trans (imm_lst (e7 _ _ hacc3)))) hap) (.cons ⟨c', rfl, by rw [upd_ne cD, upd_same]; rfl⟩ .nil)
          · rw [if_neg hc1, List.append_nil] at hs
            refine if_decF (by omega) ⟨E3, acc, hacc3, ?_⟩
            rw [hs]
            exact prd_mono (fun _ _ q => q.imm (Imm.of g6)) hap
        · obtain ⟨g1, acc, hacc, hap⟩ := h
          have hal : acc.length ≤ 5 := by rw [prd_len hap]; exact clRow_len
          have EX : Ext H7 X1 := ef.trans g1
          have hcaX := EX _ _ hca7
          refine ⟨ca, D3, cs, acc, rfl, rfl, hcaX, hacc, Nat.le_trans (show cs.length + acc.length ≤ 5010 by omega) (by decide), ⟨_, _, _, _, _, _, _, ws ++ [.ref c], cs ++ acc, rfl, Ext.mut (E7.trans EX) hca0, IMG7.trans ((Imm.of EX).trans (imm_lst hcaX)), by rw [upd_ne nqc]; exact EX _ _ hq7, by rw [upd_ne nrc]; exact EX _ _ hra7, upd_same, prd_mono (fun _ _ z => MEAt.imm ((Imm.of EX).trans (imm_lst hcaX)) z) wp7, ?_⟩⟩
          rw [List.take_add_one, hki, List.flatMap_append]
          refine prd_app (prd_mono (fun _ _ z => ClAt.imm ((Imm.of EX).trans (imm_lst hcaX)) z) cp7) ?_
          rw [show (some k).toList.flatMap (clK (absD T1)) = clK (absD T1) k by simp, ← cl_row tok' hmem]
          exact prd_mono (fun _ _ z => ClAt.imm (imm_lst hcaX) z) hap
      · obtain ⟨s2, s3, s4, s7, s8, s9, s10, ws, cs, rfl, e2, im2, hq2, hra2, hca2, hwp, hcp⟩ := hP
        rw [vl, List.take_length] at hwp hcp
        exact hN _ _ ⟨_, _, _, _, _, _, _, ws, cs, rfl, e2, hra2, hca2, by unfold entsOf; rw [hks]; exact hwp, hcp⟩
    obtain ⟨s2, s3, s4, s7, s8, s9, s10, ws, cs, rfl, e2, hra2, hca2, hwp, hcp⟩ := hP
    refine ⟨_, rfl, p, dx, _, rfl, e2 _ _ hins, rfl, p, t, U, rfl, (hL.ext e2).at_, uo, tok, fun fa H1 fs f1 hfs hfp => ?_⟩
    refine next_ok ?_
    dsimp only
    have entok : ∀ e ∈ entsOf t, EntOk e := fun e h => ents_ok tok uo h
    have e3 : Ext H H1 := e2.trans f1
    have hra3 := f1 _ _ hra2
    have hca3 := f1 _ _ hca2
    have hwp3 := prd_mono (fun _ _ z => MEAt.imm (Imm.of f1) z) hwp
    have hcp3 := prd_mono (fun _ _ z => ClAt.imm (Imm.of f1) z) hcp
    rw [← same.ents tok tok'] at hwp3
    have fl := prd_len hfp
    have el := ents_len tok uo
    refine seq_cut (fun σ H' => σ = [some (.ref p), some (.ref d), s2, some (.ref fa), s4, some (.ref ra), some (.ref ca), s7, s8, s9, s10] ∧ Ext H1 H') (fun N hN => ?_) (fun σ H' hP => ?_)
    · refine ⟨_, rfl, ⟨_, _, _, _, _, rfl, .ty "tuple", .base (.tup hfs), T.kit 3 rfl, true, rfl, iteF ?_⟩⟩
      refine ⟨_, rfl, fa, rfl, ⟨fs, SqT.of hfs⟩, fun D hD => ?_⟩
      refine lc_map (src_tup (xs := fs)) (fun _ => False) (fun m z H' => ∃ e, (entsOf t)[m]? = some e ∧ MEAt H' z e) (fun _ _ => True) hD (fun z => z) (Nat.le_trans (show fs.length ≤ 1000 by omega) (by decide)) (fun m z H H' im ⟨e, h1, h2⟩ => ⟨e, h1, h2.imm im⟩) (fun _ _ _ h => h) True.intro (fun m H' _ k _ => SqT.of (Kp.ext k _ _ hfs)) (fun _ _ _ _ k => Imm.of (Kp.ext k)) (fun m z H8 H9 hm kp _ hy Q' qq => ?_) fun M1 zs kp hD1 hl1 hr1 _ => ?_
      · obtain ⟨rfl, hz⟩ := hy
        obtain ⟨e, he, hat⟩ := prd_get hfp hz
        exact ⟨rfl, _, rfl, z, e, rfl, hat.imm (Imm.of (Kp.ext kp)), entok e (List.mem_of_getElem? he), fun kv H' e' mk => qq _ _ (Kp.of e') ⟨e, he, mk⟩ True.intro⟩
      · have eM := Kp.ext kp
        have pz : Paired (MEAt M1) zs (entsOf t) := prd_ix (by rw [hl1, fl]) fun j z e h1 h2 => by
          obtain ⟨e', h3, h4⟩ := hr1 j z h1
          rw [h2] at h3
          cases h3
          exact h4
        refine ⟨_, rfl, .list ((entsOf t).map edat), .list ((entsOf t).map edat), .lst (SqL.of hD1) (dpAll_of (fun v e q => MEAt.dp q) pz), .lst (SqL.of (eM _ _ hra3)) (dpAll_of (fun v e q => MEAt.dp q) (prd_mono (fun _ _ z => MEAt.imm (Imm.of eM) z) hwp3)), ents_shaped entok, ents_shaped entok, ?_⟩
        rw [ents_self entok]
        exact ⟨_, rfl, iteF (next_ok (hN _ _ ⟨rfl, eM⟩))⟩
    obtain ⟨rfl, f2⟩ := hP
    refine seq_cut (fun σ H'' => ∃ s4, σ = [some (.ref p), some (.ref d), s2, some (.ref fa), s4, some (.ref ra), some (.ref ca), s7, s8, s9, s10] ∧ H'' = H') (fun N hN => ?_) (fun σ H'' hP => ?_)
    · refine ⟨_, rfl, fa, rfl, ⟨_, SqT.of (f2 _ _ hfs)⟩, ?_⟩
      refine for_src (src_tup (xs := fs)) (fun i σ H'' => (∃ s4, σ = [some (.ref p), some (.ref d), s2, some (.ref fa), s4, some (.ref ra), some (.ref ca), s7, s8, s9, s10]) ∧ H'' = H') ⟨⟨_, rfl⟩, rfl⟩ (fun i σ H'' _ ⟨_, a⟩ => by rw [a]; exact SqT.of (f2 _ _ hfs)) (fun i x σ X1 X2 hi hP hy => ?_) fun σ X1 hP => ?_
      · obtain ⟨rfl, hx⟩ := hy
        obtain ⟨⟨s4', rfl⟩, rfl⟩ := hP
        obtain ⟨e, he, hat⟩ := prd_get hfp hx
        have ok := entok e (List.mem_of_getElem? he)
        obtain ⟨b, us, rfl, hb, hpu⟩ := hat.imm (Imm.of f2)
        have ul : us.length = 5 := (prd_len hpu).trans ok.five
        obtain ⟨u0, u1, u2, u3, u4, rfl⟩ := five_of ul
        obtain ⟨o3, ho3, ha3⟩ := prd_get hpu (i := 3) rfl
        obtain ⟨o4, ho4, ha4⟩ := prd_get hpu (i := 4) rfl
        refine seq_cut (fun σ H'' => σ = [some (.ref p), some (.ref d), s2, some (.ref fa), some (.ref b), some (.ref ra), some (.ref ca), s7, s8, s9, s10] ∧ H'' = X2) (fun N hN => ?_) (fun σ H'' hP => ?_)
        · refine ⟨_, rfl, b, _, 5, u3, rfl, rfl, SqT.of hb, rfl, rfl, _, rfl, ?_⟩
          rcases oth_cases ha3 with ⟨hz0, ho0⟩ | ⟨th, ho0, hth, hzn⟩
          · exact if_ndecF hz0 (next_ok (hN _ _ ⟨rfl, rfl⟩))
          · subst ho0
            rcases th_ok (ok.each 3 th ho3) with ⟨z, rfl, e', k⟩ | ⟨tt, z, rfl, e', k⟩ | ⟨pl, rfl, e', k⟩ | ⟨yy, mm, dd, rfl, e', k⟩ | ⟨nn, rfl, e', k⟩ <;> cases e'
            obtain ⟨xa, xd, rfl, hxa⟩ := hth
            exact if_ndecT hzn ⟨_, rfl, b, _, 5, _, rfl, rfl, SqT.of hb, rfl, ⟨_, _, _, _, _, rfl, .own _, T.ty_Day hxa, T.kit 9 rfl, true, rfl, iteF (next_ok (hN _ _ ⟨rfl, rfl⟩))⟩⟩
        obtain ⟨rfl, rfl⟩ := hP
        refine ⟨_, rfl, b, _, 6, u4, rfl, rfl, SqT.of hb, rfl, rfl, _, rfl, ?_⟩
        rcases oth_cases ha4 with ⟨hz0, ho0⟩ | ⟨th, ho0, hth, hzn⟩
        · exact if_ndecF hz0 (next_ok ⟨⟨_, rfl⟩, rfl⟩)
        · subst ho0
          rcases th_ok (ok.each 4 th ho4) with ⟨z, rfl, e', k⟩ | ⟨tt, z, rfl, e', k⟩ | ⟨pl, rfl, e', k⟩ | ⟨yy, mm, dd, rfl, e', k⟩ | ⟨nn, rfl, e', k⟩ <;> cases e'
          obtain ⟨xa, xd, rfl, hxa⟩ := hth
          exact if_ndecT hzn ⟨_, rfl, b, _, 6, _, rfl, rfl, SqT.of hb, rfl, ⟨_, _, _, _, _, rfl, .own _, T.ty_Length hxa, T.kit 12 rfl, true, rfl, iteF (next_ok ⟨⟨_, rfl⟩, rfl⟩)⟩⟩
      · obtain ⟨⟨s4', rfl⟩, rfl⟩ := hP
        exact hN _ _ ⟨_, rfl, rfl⟩
    obtain ⟨s4', rfl, rfl⟩ := hP
    have e4 : Ext H H'' := e3.trans f2
    refine ⟨_, rfl, p, dx, _, rfl, e4 _ _ hins, rfl, p, t, U, rfl, hL.ext e4, uo, tok, fun a2 H5 cs2 e5 hcs2 hcp2 => ?_⟩
    have clo : ∀ c ∈ sortC (clashesOf t), ClOk c := fun c h => cl_ok tok uo c (List.mem_mergeSort.mp h)
    have cll : (sortC (clashesOf t)).length ≤ 5000 := by
      have := cl_len tok uo (i := t.length)
      rw [List.take_length] at this
      unfold sortC
      rw [List.length_mergeSort]
      exact this
    obtain ⟨sh1, sh2, sh3, sh4⟩ := cl_shown clo cll
    refine ⟨a2, csD (sortC (clashesOf t)), rfl, .tup (SqT.of hcs2) (dpAll_of (fun v e q => dp_cl q) hcp2), sh1, sh2, sh3, sh4, ?_⟩
    have f25 : Ext H1 H5 := f2.trans e5
    have hcp5 := prd_mono (fun _ _ z => ClAt.imm (Imm.of f25) z) hcp3
    obtain ⟨so, sf⟩ := sortOk_of (K := K) (mk := cdat) hcp5 (fun v x h => dp_cl h) (alike_cl _) (sortable_cl _) (fun x _ => Nat.le_trans (depth_cl x) (by decide))
    refine ⟨_, rfl, ca, _, rfl, SqL.of (by rw [sf]; exact f25 _ _ hca3), so, fun q hq0 => ?_⟩
    refine ⟨q, _, rfl, .inl ⟨SqL.of upd_same, fun l hl => ?_⟩⟩
    have e7' := fun o' => (e4.trans e5).trans ((Ext.upd hq0).trans (Ext.upd (o := o') hl))
    refine ⟨l, csD (sortC (clashesOf t)), rfl, .tup (SqT.of upd_same) (dpAll_of (fun v e q => dp_cl q) (prd_mono (fun _ _ z => ClAt.imm (Imm.of ((Ext.upd hq0).trans (Ext.upd hl))) z) (by rw [same.cl tok tok']; exact srt_prd hcp5))), sh1, sh2, sh3, sh4, ?_⟩
    generalize hG7 : upd (upd H5 q _) l _ = H7
    have e7 : Ext H H7 := by rw [← hG7]; exact e7' _
    clear hG7 e7'
    refine ⟨rfl, _, rfl, if_ndecF rfl ?_⟩
    refine next_ok ?_
    dsimp only
    have hlen := tok.len uo
    have hkl : kvs.length = t.length := by rw [← dtab_len htab, ← same.len tok tok']
    have hd := dec_len (i := (kvs.length : Int)) (k := 4) (by omega) (by decide) (by omega)
    unfold dec at hd
    have l8 : (("Listing(" : Str)).length = 8 := rfl
    have l1 : ((")" : Str)).length = 1 := rfl
    refine ⟨_, rfl, p, dx, _, rfl, e7 _ _ hins, p, t, rfl, hL.ext e7, hlen, _, rfl, _, rfl, d, kvs, rfl, e7 _ _ hdic, _, rfl, log2_lt (k := 200) (by omega) (by decide), _, _, rfl, rfl, by rw [l8]; exact Nat.le_trans (show 8 + _ ≤ 12 by omega) (by decide), _, _, rfl, rfl, by rw [strLen_append, l8, l1]; exact Nat.le_trans (show 8 + _ + 1 ≤ 13 by omega) (by decide), rfl, ?_⟩
    have er : reprL t.length = "Listing(" ++ toString (kvs.length : Int) ++ ")" := by
      unfold reprL
      rw [hkl]
      have e0 : ∀ x : Str, Str.empty ++ x = x := fun x => by
        show (⟨#[] ++ x.cps⟩ : Str) = x
        rw [Array.empty_append]
      rw [e0]
      rfl
    rw [er, decide_eq_true rfl]
    exact hq _ e7
end
end TW
set_option Elab.async false
set_option linter.all false
set_option maxRecDepth 100000
set_option maxHeartbeats 4000000
namespace TW
open PySem PySem.Spec PyProof.Rows L2
section
variable {P : Program} {w : World} {K : PySem.W.Frag} {mg : Str → Option Value} {base : Heap}
open LamX

theorem prd_rev {α β : Type} {R : α → β → Prop} : ∀ {xs : List α} {ys : List β}, Paired R xs ys → Paired R xs.reverse ys.reverse
  | _, _, .nil => .nil
  | _, _, .cons a t => by rw [List.reverse_cons, List.reverse_cons]; exact prd_app (prd_rev t) (.cons a .nil)
theorem flat_len {α : Type} {c : Nat} : ∀ {l : List (List α)}, (∀ x ∈ l, x.length ≤ c) → l.flatten.length ≤ c * l.length
  | [], _ => by simp
  | x :: l, h => by
    have h1 := h x List.mem_cons_self
    have h2 := flat_len (l := l) fun y hy => h y (List.mem_cons_of_mem _ hy)
    rw [List.flatten_cons, List.length_append, List.length_cons, Nat.mul_add]
    omega
theorem prd_flat {α β : Type} {R : α → β → Prop} : ∀ {xs : List (List α)} {ys : List (List β)}, Paired (Paired R) xs ys → Paired R xs.flatten ys.flatten
  | _, _, .nil => .nil
  | _, _, .cons a t => prd_app a (prd_flat t)
/-- a listing, its table, its entries, whatever else stands -/
def LisV (K : PySem.W.Frag) (U : List Ent) (H : Hp) (v : V) (es : List Ent) : Prop := ∃ (p : Addr) (t : ATab), v = .ref p ∧ LisU K H p t ∧ TabOk U t ∧ Of t es
theorem LisE.v {S : Addr → Prop} {U : List Ent} {H : Hp} {v : V} {es : List Ent} (a : LisE K U S H v es) : LisV K U H v es := let ⟨p, t, e, a1, a2, a3⟩ := a; ⟨p, t, e, a1.u, a2, a3⟩
theorem LisV.e {S : Addr → Prop} {U : List Ent} {H : Hp} {v : V} {es : List Ent} (hn : ∀ b, S b → H b = none) (a : LisV K U H v es) : LisE K U S H v es := let ⟨p, t, e, a1, a2, a3⟩ := a; ⟨p, t, e, LisF.of hn a1, a2, a3⟩
theorem LisV.ext {U : List Ent} {H H' : Hp} {v : V} {es : List Ent} (e : Ext H H') (a : LisV K U H v es) : LisV K U H' v es := let ⟨p, t, q, a1, a2, a3⟩ := a; ⟨p, t, q, a1.ext e, a2, a3⟩
theorem LisV.extN {U : List Ent} {H H' : Hp} {v : V} {es : List Ent} (e : ExtN H H') (a : LisV K U H v es) : LisV K U H' v es := let ⟨p, t, q, a1, a2, a3⟩ := a; ⟨p, t, q, a1.extN e, a2, a3⟩
theorem LisV.kp {U : List Ent} {H H' : Hp} {h : Addr} {n : Nat} {v : V} {es : List Ent} (k : KpH h H H') (hh : HandAt H h n) (a : LisV K U H v es) : LisV K U H' v es := let ⟨p, t, e, a1, a2, a3⟩ := a; ⟨p, t, e, a1.kp k hh, a2, a3⟩
theorem lis_tab {S : Addr → Prop} {U : List Ent} {B H : Hp} {x d : Addr} {T : Tab} {es : List Ent} (lb : LB K B H x d T) (ab : absT T = tabOf es) (uo : UOk U) (sub : ∀ e ∈ es, e ∈ U) (hb : ∀ b, S b → ∃ o, B b = some o) : LisE K U S H (.ref x) es :=
  ⟨x, absT T, rfl, LisF.of_lb hb lb, by rw [ab]; exact tabOk_fold uo tabOk_nil sub, by rw [ab]; exact of_tab fun e he => (uo.each e (sub e he)).five⟩
theorem LB.up {B H : Hp} {x d r : Addr} {T : Tab} {o : HO} (lb : LB K B H x d T) (hr : H r = none) : LB K (upd B r o) (upd H r o) x d T := by
  have l2 := lb.ext (Ext.upd (o := o) hr)
  obtain ⟨dx, h1⟩ := lb.ins
  obtain ⟨kvs, h2, h3⟩ := lb.dic
  refine ⟨l2.ins, l2.dic, l2.nod, ?_, ?_, fun l hl => ?_⟩
  · rw [upd_ne (ne_of_none h1 hr)]; exact lb.fp
  · rw [upd_ne (ne_of_none h2 hr)]; exact lb.fd
  · obtain ⟨u, hu⟩ := lists_some h3 l hl
    rw [upd_ne (ne_of_none hu hr)]; exact lb.fl l hl
theorem ext_both {B H : Hp} {r : Addr} {o : HO} (e : Ext B H) : Ext (upd B r o) (upd H r o) := fun b u hb => by
  by_cases h : b = r
  · subst h; rw [upd_same] at hb ⊢; exact hb
  · rw [upd_ne h] at hb ⊢; exact e _ _ hb

def sp_law_ways (K : PySem.W.Frag) : Sp := fun vs H Q _ => ∃ (h la : Addr) (n : Nat) (ls : List V) (ess : List (List Ent)) (U : List Ent), vs = [.ref h, .ref la] ∧ HandAt H h n ∧ n ≤ 700000 ∧ H la = some (.lst ls) ∧ Paired (EsAt K H) ls ess ∧ UOk U ∧ (∀ e ∈ ess.flatten, e ∈ U) ∧ 3 ≤ ess.length ∧ ess.length ≤ 6 ∧ (∀ es ∈ ess, es.length ≤ 6) ∧
  ∀ (r ga fa : Addr) (gs fs : List V) (fes : List (List Ent)) H', KpH h H H' → HandAt H' h (n + 200) → H' ga = some (.lst gs) → Paired (LisV K U H') gs ess → H' fa = some (.lst fs) → Paired (LisV K U H') fs fes → fes.length = 5 → (∀ es ∈ fes, ∀ e, e ∈ es ↔ e ∈ ess.flatten) → H' r = some (.tup [.ref ga, .ref fa]) → Q (.ref r) H'
theorem ok_law_ways (T : Txt K mg) : C8.Cal P w K mg base 10 "_law_ways" (sp_law_ways K) [] := by
  obtain ⟨fd, F⟩ := T.d_law_ways
  refine cal_of F T.g_law_ways (fun _ _ _ _ _ _ us hl => match us, hl with | [_, _], _ => rfl) sc_law_ways (fun vs H Q E h => ?_) fun cdv A outer s H vs Q E hr h => ?_
  · obtain ⟨h, la, n, ls, ess, U, rfl, hh, hn, hla, hp, uo, hU, l1, l2, few, hq⟩ := h
    rfl
  · have hu := hu_of hr
    have hu64 := hr.units
    obtain ⟨h, la, n, ls, ess, U, rfl, hh, hn, hla, hp, uo, hU, l1, l2, few, hq⟩ := h
    refine ⟨_, (pss_cons (ps_par (i := 7) (j := 8) (by rfl) sc_law_ways.nd rfl rfl (by decide) rfl rfl (pa_cons (pe_lc (own := [("_law_some", 2)]) (by rfl) sc_law_ways.nd (pi_list (pv 1)) (blkOk_by (N := N_law_ways) (sc := defScope s_law_ways) (by decide +kernel)) (fun _ _ _ _ _ => (pg_name (i := 2) sc_law_ways.nd rfl (by first | exact Or.inl rfl | exact Or.inr rfl))) (fun _ _ _ _ _ => by exact pts_nil) (fun _ _ _ _ _ => by exact (C8.pe_mk (mk_Listing_1 T) hr (by decide) rfl (pa_cons (pe_callTy (kTupleOf K) (by rfl) T.f_tuple (by decide +kernel) (pa_cons (pv 2) pa_nil)) pa_nil)))) (pa_cons (pe_lst pa_nil) pa_nil)) (by rfl))
    (pss_cons (ps_for PassesOwn.never rfl (pi_list (pe_revL (pv 1))) (pg_name (i := 2) sc_law_ways.nd rfl (by first | exact Or.inl rfl | exact Or.inr rfl))
    (pss_one (ps_expr (pe_bm PySem.F.plainAttrs_list PySem.F.slot_list_extend PySem.F.type_list_extend mt_extend (pv 8) (pa_cons (pv 2) pa_nil)))))
    (pss_cons (ps_set (i := 3) sc_law_ways.nd rfl (by first | exact Or.inl rfl | exact Or.inr rfl) (pe_mk0 (mk_Listing_0 T) hr (by decide) rfl))
    (pss_cons (ps_for PassesOwn.never rfl (pi_list (pe_op op_cat (pe_revL (pv 8)) (pe_slice sl_list (pv 8) po_none (po_some pe_int)))) (pg_name (i := 4) sc_law_ways.nd rfl (by first | exact Or.inl rfl | exact Or.inr rfl))
    (pss_one (ps_expr (C8.pe_mt (ok_Listing_put T) hr (by decide) (pv 3) (pa_cons (pv 4) pa_nil)))))
    (pss_cons (ps_set (i := 5) sc_law_ways.nd rfl (by first | exact Or.inl rfl | exact Or.inr rfl) (pe_lst (pa_cons (pe_mkk T hr (by decide) rfl (pe_callTy call_tuple_of (by rfl) T.f_tuple (by decide +kernel) (pa_cons (pv 8) pa_nil))) (pa_cons (pv 3) (pa_cons (C8.pe_c (ok_law_grouped T) hr (by decide) rfl (pa_cons (pv 0) (pa_cons (pv 7) pa_nil))) pa_nil)))))
    (pss_cons (ps_set (i := 6) sc_law_ways.nd rfl (by first | exact Or.inl rfl | exact Or.inr rfl) (C8.pe_c (ok_law_pick T) hr (by decide) rfl (pa_cons (pv 0) (pa_cons (pv 7) pa_nil))))
    (pss_cons (ps_expr (pe_bm PySem.F.plainAttrs_list PySem.F.slot_list_append PySem.F.type_list_append mt_append (pv 5) (pa_cons (C8.pe_c (ok_law_grouped T) hr (by decide) rfl (pa_cons (pv 0) (pa_cons (pe_op op_cat (pv 7) (pe_lst (pa_cons (pv 6) pa_nil))) pa_nil))) pa_nil)))
    (pss_cons (ps_expr (pe_bm PySem.F.plainAttrs_list PySem.F.slot_list_append PySem.F.type_list_append mt_append (pv 5) (pa_cons (C8.pe_c (ok_law_grouped T) hr (by decide) rfl (pa_cons (pv 0) (pa_cons (pe_op op_cat (pe_revL (pv 7)) (pe_lst (pa_cons (pe_mk0 (mk_Listing_0 T) hr (by decide) rfl) (pa_cons (pv 6) pa_nil)))) pa_nil))) pa_nil)))
    (pss_one (ps_ret (pe_tup (pa_cons (pv 7) (pa_cons (pv 5) pa_nil))))))))))))), ?_⟩
    have lsl := prd_len hp
    have hneg : ∀ {H' : Hp} {m : Nat} {a : Addr}, HandAt H' h m → H' a = none → a ≠ h := fun a b e => hand_ne a b e.symm
    refine ⟨_, rfl, la, rfl, ⟨ls, SqL.of hla⟩, fun ga hga => ?_⟩
    have hgh := hneg hh hga
    refine lc_src (src_list (xs := ls)) (fun i H' => Ext H H' ∧ ∃ zs, H' ga = some (.lst zs) ∧ Paired (LisE K U (· = ga) H') zs (ess.take i)) ⟨Ext.upd hga, [], upd_same, .nil⟩ (fun i H' _ h => SqL.of (h.1 _ _ hla)) (fun i x H2 H3 hi h hy => ?_) fun H1 h => ?_
    · obtain ⟨rfl, hx⟩ := hy
      obtain ⟨e2, zs, hz, hzp⟩ := h
      obtain ⟨es, hes, a, ws, rfl, ha, hpw⟩ := prd_get hp hx
      have ha3 := e2 _ _ ha
      have hpw3 := ent_imm (Imm.of e2) hpw
      refine ⟨rfl, _, rfl, a, ws, rfl, .inl ⟨SqL.of ha3, fun tu htu => ?_⟩⟩
      intro x dx hx' hdx hne
      have fB : Ext H3 (upd H3 tu (.tup ws)) := Ext.upd htu
      have tB : upd H3 tu (.tup ws) tu = some (.tup ws) := upd_same
      generalize upd H3 tu (.tup ws) = B at hx' hdx fB tB ⊢
      have e4 : Ext B (upd (upd B dx (.own x)) x (.ins (He.ga K "Listing") dx [])) := (Ext.upd hdx).trans (Ext.upd (by rw [upd_ne hne.symm]; exact hx'))
      have sub : ∀ e ∈ es, e ∈ U := fun e he => hU e (List.mem_flatten.mpr ⟨es, List.mem_of_getElem? hes, he⟩)
      refine ⟨B, x, dx, .ref tu, es, U, rfl, e4, hx', upd_same, .inr ⟨tu, ws, rfl, .inr (SqT.of tB), ent_imm (Imm.of fB) hpw3⟩, uo, sub, fun H' d3 T3 e5 lb ab => ⟨rfl, ?_⟩⟩
      have hzB := fB _ _ hz
      have hz' := e5 _ _ hzB
      have lq := lis_tab (S := (· = ga)) lb ab uo sub (fun b z => ⟨.lst zs, z ▸ hzB⟩)
      have zl := prd_len hzp
      rw [List.length_take] at zl
      refine ⟨zs, hz', Nat.lt_of_le_of_lt (show zs.length ≤ 6 by omega) (by decide), Ext.mut ((e2.trans fB).trans e5) hga, _, upd_same, ?_⟩
      rw [List.take_add_one, hes]
      exact prd_app (prd_mono (fun _ _ q => LisE.upd (S := (· = ga)) rfl hz' (LisE.ext (fB.trans e5) q)) hzp) (.cons (lq.upd rfl hz') .nil)
    obtain ⟨e1, gs, hgs, hgp⟩ := h
    rw [lsl, List.take_length] at hgp
    have hgp := prd_mono (fun _ _ q => LisE.v q) hgp
    have gsl := prd_len hgp
    refine ⟨by show 0 ≤ sizeLine; decide, fun ea hea => ⟨_, _, rfl, ?_⟩⟩
    refine next_ok ?_
    dsimp only
    generalize hG : upd H1 ea _ = G1
    have f1 : Ext H1 G1 := by rw [← hG]; exact Ext.upd hea
    have tea : G1 ea = some (.lst []) := by rw [← hG]; exact upd_same
    clear hG
    refine seq_cut (fun σ H' => ∃ (s2 : Option V) (us : List V), σ = [some (.ref h), some (.ref la), s2, none, none, none, none, some (.ref ga), some (.ref ea)] ∧ Ext H1 H' ∧ H' ea = some (.lst us) ∧ Paired (EntAt K H') us ess.reverse.flatten) (fun N hN => ?_) (fun σ H' hP => ?_)
    · refine ⟨_, rfl, la, ls, rfl, SqL.of (f1 _ _ (e1 _ _ hla)), fun p hp0 => ⟨p, rfl, ⟨_, SqL.of upd_same⟩, ?_⟩⟩
      have npe : p ≠ ea := (ne_of_none tea hp0).symm
      have f2 : Ext G1 (upd G1 p (.lst ls.reverse)) := Ext.upd hp0
      have tp : upd G1 p (.lst ls.reverse) p = some (.lst ls.reverse) := upd_same
      generalize upd G1 p (.lst ls.reverse) = G2 at f2 tp
      refine for_src (src_list (xs := ls.reverse)) (fun i σ H' => ∃ (s2 : Option V) (us : List V), σ = [some (.ref h), some (.ref la), s2, none, none, none, none, some (.ref ga), some (.ref ea)] ∧ Ext H1 H' ∧ H' p = some (.lst ls.reverse) ∧ H' ea = some (.lst us) ∧ Paired (EntAt K H') us (ess.reverse.take i).flatten)
        ⟨_, [], rfl, f1.trans f2, tp, f2 _ _ tea, .nil⟩ (fun i σ H' _ ⟨_, _, _, _, a, _⟩ => SqL.of a) (fun i x σ H2 H3 hi hP hy => ?_) fun σ H' hP => ?_
      · obtain ⟨rfl, hx⟩ := hy
        obtain ⟨s2, us, rfl, e2, hp2, hu2, hup⟩ := hP
        obtain ⟨es, hes, a, ws, rfl, ha, hpw⟩ := prd_get (prd_rev hp) hx
        have ha2 := e2 _ _ (e1 _ _ ha)
        have hpw2 := ent_imm (Imm.of (e1.trans e2)) hpw
        have esl : es.length ≤ 6 := few es (List.mem_reverse.mp (List.mem_of_getElem? hes))
        have ul := prd_len hup
        have fl := flat_len (c := 6) (l := ess.reverse.take i) fun x hx => few x (List.mem_reverse.mp (List.mem_of_mem_take hx))
        rw [List.length_take, List.length_reverse] at fl
        refine ⟨_, rfl, .inl ⟨rfl, us, SqL.of hu2⟩, _, rfl, ea, a, us, ws, rfl, rfl, hu2, ha2, Nat.le_trans (show us.length + ws.length ≤ 100 by rw [prd_len hpw]; omega) (by decide), _, us ++ ws, rfl, Ext.mut e2 hea, by rw [upd_ne npe]; exact hp2, upd_same, ?_⟩
        rw [List.take_add_one, hes, List.flatten_append]
        refine prd_app (ent_imm (imm_lst hu2) hup) ?_
        rw [show (some es).toList.flatten = es by simp]
        exact ent_imm (imm_lst hu2) hpw2
      · obtain ⟨s2, us, rfl, e2, hp2, hu2, hup⟩ := hP
        rw [List.length_reverse, lsl, ← List.length_reverse, List.take_length] at hup
        exact hN _ _ ⟨_, us, rfl, e2, hu2, hup⟩
    obtain ⟨s2, us, rfl, e2, hu2, hup⟩ := hP
    have evm : ∀ e, e ∈ ess.reverse.flatten ↔ e ∈ ess.flatten := fun e => by
      rw [List.mem_flatten, List.mem_flatten]
      exact ⟨fun ⟨l, a, b⟩ => ⟨l, List.mem_reverse.mp a, b⟩, fun ⟨l, a, b⟩ => ⟨l, List.mem_reverse.mpr a, b⟩⟩
    have evl : ess.reverse.flatten.length ≤ 36 := by
      have fl := flat_len (c := 6) (l := ess.reverse) fun x hx => few x (List.mem_reverse.mp hx)
      rw [List.length_reverse] at fl
      omega
    generalize ess.reverse.flatten = ev at hup evm evl
    have usl := prd_len hup
    have esub : ∀ e ∈ ev, e ∈ U := fun e he => hU e ((evm e).mp he)
    have hgp2 := prd_mono (fun _ _ q => LisV.ext e2 q) hgp
    have hgs2 := e2 _ _ hgs
    have hh2 := (hh.ext e1).ext e2
    have E2 := e1.trans e2
    intro x dx hx hdx hne
    have e4 : Ext H' (upd (upd H' dx (.own x)) x (.ins (He.ga K "Listing") dx [])) := (Ext.upd hdx).trans (Ext.upd (by rw [upd_ne hne.symm]; exact hx))
    refine ⟨H', x, dx, .non, [], U, rfl, e4, hx, upd_same, .inl ⟨rfl, rfl⟩, uo, (fun _ h => nomatch h), fun H3 d3 T3 e3 lb ab => ⟨rfl, ?_⟩⟩
    refine next_ok ?_
    dsimp only
    refine seq_cut (fun σ H4 => ∃ (s2 s4 : Option V), σ = [some (.ref h), some (.ref la), s2, some (.ref x), s4, none, none, some (.ref ga), some (.ref ea)] ∧ Ext H' H4 ∧ LisV K U H4 (.ref x) (ev.reverse ++ ev.take 3)) (fun N hN => ?_) (fun σ H4 hP => ?_)
    · refine ⟨_, rfl, ea, us, rfl, SqL.of (e3 _ _ hu2), fun r1 hr1 => ?_⟩
      have g1 : Ext H3 (upd H3 r1 (.lst us.reverse)) := Ext.upd hr1
      have t1 : upd H3 r1 (.lst us.reverse) r1 = some (.lst us.reverse) := upd_same
      generalize upd H3 r1 (.lst us.reverse) = X1 at g1 t1
      refine ⟨_, rfl, 3, rfl, ea, us, rfl, SqL.of (g1 _ _ (e3 _ _ hu2)), fun r2 hr2 => ?_⟩
      rw [show cutV us none (some 3) = us.take 3 from cut_to us 3]
      have g2 : Ext X1 (upd X1 r2 (.lst (us.take 3))) := Ext.upd hr2
      have t2 : upd X1 r2 (.lst (us.take 3)) r2 = some (.lst (us.take 3)) := upd_same
      generalize upd X1 r2 (.lst (us.take 3)) = X2 at g2 t2
      refine ⟨r1, r2, _, _, rfl, rfl, g2 _ _ t1, t2, Nat.le_trans (show us.reverse.length + (us.take 3).length ≤ 100 by rw [List.length_reverse, List.length_take]; omega) (by decide), fun r3 hr3 => ⟨r3, rfl, ⟨_, SqL.of upd_same⟩, ?_⟩⟩
      have hp4 : Paired (EntAt K H') (us.reverse ++ us.take 3) (ev.reverse ++ ev.take 3) := prd_app (prd_rev hup) (prd_take hup).1
      have sub4 : ∀ e ∈ ev.reverse ++ ev.take 3, e ∈ U := fun e he => esub e ((List.mem_append.mp he).elim List.mem_reverse.mp List.mem_of_mem_take)
      generalize us.reverse ++ us.take 3 = ws4 at hp4
      generalize ev.reverse ++ ev.take 3 = es4 at hp4 sub4 hN
      have lbB := (lb.ext (g1.trans g2)).up (o := .lst ws4) hr3
      have eB : Ext (upd H' r3 (.lst ws4)) (upd X2 r3 (.lst ws4)) := ext_both (e3.trans (g1.trans g2))
      have hr3' : H' r3 = none := Ext.free (e3.trans (g1.trans g2)) hr3
      have e0 : Ext H' (upd H' r3 (.lst ws4)) := Ext.upd hr3'
      have tr3 : upd H' r3 (.lst ws4) r3 = some (.lst ws4) := upd_same
      have hp5 := ent_imm (Imm.of e0) hp4
      generalize upd H' r3 (.lst ws4) = B3 at lbB eB e0 tr3 hp5
      generalize upd X2 r3 (.lst ws4) = X3 at lbB eB
      refine for_src (src_list (xs := ws4)) (fun i σ H4 => (∃ (s2 s4 : Option V), σ = [some (.ref h), some (.ref la), s2, some (.ref x), s4, none, none, some (.ref ga), some (.ref ea)]) ∧ Ext B3 H4 ∧ ∃ T, LB K B3 H4 x d3 T ∧ absT T = (es4.take i).foldl putT []) ⟨⟨_, _, rfl⟩, eB, T3, lbB, ab⟩ (fun i σ H' _ h => SqL.of (h.2.1 _ _ tr3)) (fun i z σ Y1 Y2 hi h hy => ?_) fun σ Y1 h => ?_
      · obtain ⟨rfl, hz⟩ := hy
        obtain ⟨⟨s2, s4, rfl⟩, eY, T, lbY, abY⟩ := h
        obtain ⟨e, he, hze⟩ := prd_get hp5 hz
        obtain ⟨dx', hins⟩ := lbY.ins
        have tk : TabOk U (absT T) := by rw [abY]; exact tabOk_fold uo tabOk_nil fun e' he' => sub4 e' (List.mem_of_mem_take he')
        refine ⟨_, rfl, x, dx', _, rfl, hins, rfl, _, rfl, B3, x, d3, T, z, e, U, rfl, eY, lbY, hze, uo, sub4 e (List.mem_of_getElem? he), tk, fun H6 T' e6 lb6 ab6 => ⟨⟨_, _, rfl⟩, e6, T', lb6, ?_⟩⟩
        rw [ab6, abY, fold_take he]
      · obtain ⟨⟨s2, s4, rfl⟩, eY, T, lbY, abY⟩ := h
        rw [prd_len hp4, List.take_length] at abY
        exact hN _ _ ⟨_, _, rfl, e0.trans eY, LisE.v (lis_tab (S := fun _ => False) lbY abY uo sub4 (fun _ z => z.elim))⟩
    obtain ⟨s2', s4, rfl, e5, lx⟩ := hP
    have esub4 : ∀ e, e ∈ ev.reverse ++ ev.take 3 ↔ e ∈ ess.flatten := fun e => by
      rw [← evm e, List.mem_append, List.mem_reverse]
      exact ⟨fun q => q.elim id List.mem_of_mem_take, .inl⟩
    generalize ev.reverse ++ ev.take 3 = es4 at lx esub4
    clear lb ab e3
    have hu5 := e5 _ _ hu2
    refine ⟨_, rfl, ea, us, rfl, .inl ⟨SqL.of hu5, fun tu htu => ⟨rfl, rfl, fun x2 dx2 hx2 hdx2 hne2 => ?_⟩⟩⟩
    have fB : Ext H4 (upd H4 tu (.tup us)) := Ext.upd htu
    have tB : upd H4 tu (.tup us) tu = some (.tup us) := upd_same
    generalize upd H4 tu (.tup us) = B at hx2 hdx2 fB tB ⊢
    have e6 : Ext B (upd (upd B dx2 (.own x2)) x2 (.ins (He.ga K "Listing") dx2 [])) := (Ext.upd hdx2).trans (Ext.upd (by rw [upd_ne hne2.symm]; exact hx2))
    refine ⟨B, x2, dx2, .ref tu, ev, U, rfl, e6, hx2, upd_same, .inr ⟨tu, us, rfl, .inr (SqT.of tB), ent_imm (Imm.of (e5.trans fB)) hup⟩, uo, esub, fun H7 d7 T7 e7 lb7 ab7 => ⟨rfl, ?_⟩⟩
    have lx2 : LisV K U H7 (.ref x2) ev := LisE.v (lis_tab (S := fun _ => False) lb7 ab7 uo esub (fun _ z => z.elim))
    have e47 := fB.trans e7
    have e27 := e5.trans e47
    have lx7 := lx.ext e47
    have hgp7 := prd_mono (fun _ _ q => LisV.ext e27 q) hgp2
    have hgs7 := e27 _ _ hgs2
    have hh7 := hh2.ext e27
    refine ⟨_, rfl, _, rfl, _, rfl, h, ga, n, gs, ess, U, (fun _ => False), rfl, hh7, by omega, hgs7, prd_mono (fun _ _ q => LisV.e (fun _ z => z.elim) q) hgp7, (fun _ z => z.elim), uo, by omega, by omega, fun v3 H8 es3 k8 hh8 lv3 m3 => ⟨by show 3 ≤ sizeLine; decide, fun fa hfa => ?_⟩⟩
    refine next_ok ?_
    dsimp only
    have kA : KpH h H H8 := (Kp.of (E2.trans e27)).trans k8
    have hS : ∀ b, b = fa → H8 b = none := fun b z => by rw [z]; exact hfa
    have g8 : Paired (LisE K U (· = fa) H8) gs ess := prd_mono (fun _ _ q => LisV.e hS (LisV.kp k8 hh7 q)) hgp7
    have f8 : Paired (LisE K U (· = fa) H8) [.ref x2, .ref x, v3] [ev, es4, es3] := .cons (LisV.e hS (LisV.kp k8 hh7 lx2)) (.cons (LisV.e hS (LisV.kp k8 hh7 lx7)) (.cons (LisV.e hS (LisE.v lv3)) .nil))
    have hgs8 := k8 _ _ hgh hgs7
    have nfh := hneg hh8 hfa
    have ngf : ga ≠ fa := ne_of_none hgs8 hfa
    have i9 : Ext H8 (upd H8 fa (.lst [.ref x2, .ref x, v3])) := Ext.upd hfa
    have tf9 : upd H8 fa (.lst [.ref x2, .ref x, v3]) fa = some (.lst [.ref x2, .ref x, v3]) := upd_same
    generalize upd H8 fa (.lst [.ref x2, .ref x, v3]) = H9 at i9 tf9
    have g9 := prd_mono (fun _ _ q => LisE.ext i9 q) g8
    have f9 := prd_mono (fun _ _ q => LisE.ext i9 q) f8
    have hh9 := hh8.ext i9
    have hgs9 := i9 _ _ hgs8
    have kB : KpH h H8 H9 := Kp.of i9
    refine ⟨_, rfl, _, rfl, h, _, .ref ga, rfl, hh9, by omega, .inl ⟨ga, gs, rfl, hgh, hgs9, by omega, by omega, fun j vt H10 k10 hh10 hvt => ?_⟩⟩
    refine next_ok ?_
    dsimp only
    have g10 := prd_mono (fun _ _ q => LisE.kp k10 hh9 q) g9
    have f10 := prd_mono (fun _ _ q => LisE.kp k10 hh9 q) f9
    have hgs10 := k10 _ _ hgh hgs9
    have tf10 := k10 _ _ nfh tf9
    have kC := kB.trans k10
    obtain ⟨et, het, lvt⟩ := prd_get g10 hvt
    have etm : ∀ e ∈ et, e ∈ ess.flatten := fun e he => List.mem_flatten.mpr ⟨et, List.mem_of_getElem? het, he⟩
    refine ⟨_, rfl, .inl ⟨rfl, _, SqL.of tf10⟩, _, rfl, _, rfl, _, rfl, by show 1 ≤ sizeLine; decide, fun o1 ho1 => ?_⟩
    have j1 : Ext H10 (upd H10 o1 (.lst [vt])) := Ext.upd ho1
    have u1 : upd H10 o1 (.lst [vt]) o1 = some (.lst [vt]) := upd_same
    generalize upd H10 o1 (.lst [vt]) = X1 at j1 u1
    refine ⟨ga, o1, _, _, rfl, rfl, j1 _ _ hgs10, u1, Nat.le_trans (show gs.length + 1 ≤ 100 by omega) (by decide), fun o2 ho2 => ?_⟩
    have j2 : Ext X1 (upd X1 o2 (.lst (gs ++ [vt]))) := Ext.upd ho2
    have u2 : upd X1 o2 (.lst (gs ++ [vt])) o2 = some (.lst (gs ++ [vt])) := upd_same
    generalize upd X1 o2 (.lst (gs ++ [vt])) = X2 at j2 u2
    have J2 := j1.trans j2
    have hhX := hh10.ext J2
    refine ⟨h, o2, _, gs ++ [vt], ess ++ [et], U, (· = fa), rfl, hhX, by omega, u2, prd_app (prd_mono (fun _ _ q => LisE.ext J2 q) g10) (.cons (lvt.ext J2) .nil), (fun b z => ⟨_, z ▸ J2 _ _ tf10⟩), uo, by rw [List.length_append]; omega, by rw [List.length_append, List.length_singleton]; omega, fun v4 H11 es5 k11 hh11 lv4 m4 => ?_⟩
    have tf11 := k11 _ _ nfh (J2 _ _ tf10)
    have kX := (Kp.of J2).trans k11
    have g11 := prd_mono (fun _ _ q => LisE.kp k11 hhX (LisE.ext J2 q)) g10
    have f11 := prd_mono (fun _ _ q => LisE.kp k11 hhX (LisE.ext J2 q)) f10
    have lt11 := LisE.kp k11 hhX (lvt.ext J2)
    have hgs11 := k11 _ _ hgh (J2 _ _ hgs10)
    refine ⟨fa, _, v4, rfl, rfl, tf11, (by show 3 < sizeLine; decide), ?_⟩
    refine next_ok ?_
    dsimp only
    have f12 : Paired (LisE K U (· = fa) (upd H11 fa (.lst ([.ref x2, .ref x, v3] ++ [v4])))) [.ref x2, .ref x, v3, v4] [ev, es4, es3, es5] := (prd_app (prd_mono (fun _ _ q => LisE.upd (S := (· = fa)) rfl tf11 q) f11) (.cons (lv4.upd rfl tf11) .nil) : Paired (LisE K U (· = fa) (upd H11 fa (.lst ([.ref x2, .ref x, v3] ++ [v4])))) ([.ref x2, .ref x, v3] ++ [v4]) ([ev, es4, es3] ++ [es5]))
    have g12 := prd_mono (fun _ _ q => LisE.upd (S := (· = fa)) (o := .lst ([.ref x2, .ref x, v3] ++ [v4])) rfl tf11 q) g11
    have lt12 := LisE.upd (S := (· = fa)) (o := .lst ([.ref x2, .ref x, v3] ++ [v4])) rfl tf11 lt11
    have tf12 : upd H11 fa (.lst ([.ref x2, .ref x, v3] ++ [v4])) fa = some (.lst [.ref x2, .ref x, v3, v4]) := upd_same
    have hh12 := hh11.upd (o := .lst ([.ref x2, .ref x, v3] ++ [v4])) nfh.symm
    have hgs12 : upd H11 fa (.lst ([.ref x2, .ref x, v3] ++ [v4])) ga = some (.lst gs) := by rw [upd_ne ngf]; exact hgs11
    have kD : KpH h H8 (upd H11 fa (.lst ([.ref x2, .ref x, v3] ++ [v4]))) := (kC.trans kX).mut hfa
    generalize upd H11 fa (.lst ([.ref x2, .ref x, v3] ++ [v4])) = H12 at f12 g12 lt12 tf12 hh12 hgs12 kD
    refine ⟨_, rfl, .inl ⟨rfl, _, SqL.of tf12⟩, _, rfl, _, rfl, ga, gs, rfl, SqL.of hgs12, fun o3 ho3 => ?_⟩
    have j3 : Ext H12 (upd H12 o3 (.lst gs.reverse)) := Ext.upd ho3
    have u3 : upd H12 o3 (.lst gs.reverse) o3 = some (.lst gs.reverse) := upd_same
    generalize upd H12 o3 (.lst gs.reverse) = X3 at j3 u3
    intro x5 dx5 hx5 hdx5 hne5
    have e8 : Ext X3 (upd (upd X3 dx5 (.own x5)) x5 (.ins (He.ga K "Listing") dx5 [])) := (Ext.upd hdx5).trans (Ext.upd (by rw [upd_ne hne5.symm]; exact hx5))
    refine ⟨X3, x5, dx5, .non, [], U, rfl, e8, hx5, upd_same, .inl ⟨rfl, rfl⟩, uo, (fun _ h => nomatch h), fun X4 d8 T8 j4 lb8 ab8 => ⟨rfl, ?_⟩⟩
    have l8 : LisE K U (· = fa) X4 (.ref x5) [] := lis_tab lb8 ab8 uo (fun _ h => nomatch h) (fun b z => ⟨_, z ▸ j3 _ _ tf12⟩)
    refine ⟨_, rfl, by show 2 ≤ sizeLine; decide, fun o4 ho4 => ?_⟩
    have j5 : Ext X4 (upd X4 o4 (.lst [.ref x5, vt])) := Ext.upd ho4
    have u5 : upd X4 o4 (.lst [.ref x5, vt]) o4 = some (.lst [.ref x5, vt]) := upd_same
    generalize upd X4 o4 (.lst [.ref x5, vt]) = X5 at j5 u5
    refine ⟨o3, o4, _, _, rfl, rfl, j5 _ _ (j4 _ _ u3), u5, Nat.le_trans (show gs.reverse.length + 2 ≤ 100 by rw [List.length_reverse]; omega) (by decide), fun o6 ho6 => ?_⟩
    have j6 : Ext X5 (upd X5 o6 (.lst (gs.reverse ++ [.ref x5, vt]))) := Ext.upd ho6
    have u6 : upd X5 o6 (.lst (gs.reverse ++ [.ref x5, vt])) o6 = some (.lst (gs.reverse ++ [.ref x5, vt])) := upd_same
    generalize upd X5 o6 (.lst (gs.reverse ++ [.ref x5, vt])) = X6 at j6 u6
    have J6 := ((j3.trans j4).trans j5).trans j6
    have hhY := hh12.ext J6
    refine ⟨h, o6, _, gs.reverse ++ [.ref x5, vt], ess.reverse ++ [[], et], U, (· = fa), rfl, hhY, by omega, u6, prd_app (prd_rev (prd_mono (fun _ _ q => LisE.ext J6 q) g12)) (.cons (l8.ext (j5.trans j6)) (.cons (lt12.ext J6) .nil)), (fun b z => ⟨_, z ▸ J6 _ _ tf12⟩), uo, by rw [List.length_append, List.length_reverse]; omega, by rw [List.length_append, List.length_reverse]; show gs.length + 2 ≤ 10; omega, fun v5 H13 es6 k13 hh13 lv5 m5 => ?_⟩
    have tf13 := k13 _ _ nfh (J6 _ _ tf12)
    have g13 := prd_mono (fun _ _ q => LisE.kp k13 hhY (LisE.ext J6 q)) g12
    have f13 := prd_mono (fun _ _ q => LisE.kp k13 hhY (LisE.ext J6 q)) f12
    have hgs13 := k13 _ _ hgh (J6 _ _ hgs12)
    refine ⟨fa, _, v5, rfl, rfl, tf13, (by show 4 < sizeLine; decide), ?_⟩
    refine next_ok ?_
    dsimp only
    have f14 : Paired (LisE K U (· = fa) (upd H13 fa (.lst ([.ref x2, .ref x, v3, v4] ++ [v5])))) [.ref x2, .ref x, v3, v4, v5] [ev, es4, es3, es5, es6] := (prd_app (prd_mono (fun _ _ q => LisE.upd (S := (· = fa)) rfl tf13 q) f13) (.cons (lv5.upd rfl tf13) .nil) : Paired (LisE K U (· = fa) (upd H13 fa (.lst ([.ref x2, .ref x, v3, v4] ++ [v5])))) ([.ref x2, .ref x, v3, v4] ++ [v5]) ([ev, es4, es3, es5] ++ [es6]))
    have g14 := prd_mono (fun _ _ q => LisE.upd (S := (· = fa)) (o := .lst ([.ref x2, .ref x, v3, v4] ++ [v5])) rfl tf13 q) g13
    have tf14 : upd H13 fa (.lst ([.ref x2, .ref x, v3, v4] ++ [v5])) fa = some (.lst [.ref x2, .ref x, v3, v4, v5]) := upd_same
    have hh14 := hh13.upd (o := .lst ([.ref x2, .ref x, v3, v4] ++ [v5])) nfh.symm
    have hgs14 : upd H13 fa (.lst ([.ref x2, .ref x, v3, v4] ++ [v5])) ga = some (.lst gs) := by rw [upd_ne ngf]; exact hgs13
    have kE : KpH h H8 (upd H13 fa (.lst ([.ref x2, .ref x, v3, v4] ++ [v5]))) := ((kD.trans (Kp.of J6)).trans k13).mut hfa
    generalize upd H13 fa (.lst ([.ref x2, .ref x, v3, v4] ++ [v5])) = H14 at f14 g14 tf14 hh14 hgs14 kE
    refine ⟨_, rfl, _, rfl, by show 2 ≤ sizeLine; decide, fun r hr' => ?_⟩
    have j9 : Ext H14 (upd H14 r (.tup [.ref ga, .ref fa])) := Ext.upd hr'
    refine hq r ga fa gs _ [ev, es4, es3, es5, es6] _ ((kA.trans kE).trans (Kp.of j9)) ((hh14.ext j9).mono (by omega)) (j9 _ _ hgs14) (prd_mono (fun _ _ q => LisE.v (LisE.ext j9 q)) g14) (j9 _ _ tf14) (prd_mono (fun _ _ q => LisE.v (LisE.ext j9 q)) f14) rfl (fun es hes e => ?_) upd_same
    simp only [List.mem_cons, List.not_mem_nil, or_false] at hes
    rcases hes with rfl | rfl | rfl | rfl | rfl
    · exact evm e
    · exact esub4 e
    · exact m3 e
    · rw [m4 e, List.flatten_append, List.mem_append]
      simp only [List.flatten_cons, List.flatten_nil, List.append_nil]
      exact ⟨fun q => q.elim id (etm e), .inl⟩
    · rw [m5 e, List.flatten_append, List.mem_append]
      simp only [List.flatten_cons, List.flatten_nil, List.append_nil, List.nil_append]
      have q1 : e ∈ ess.reverse.flatten ↔ e ∈ ess.flatten := by
        rw [List.mem_flatten, List.mem_flatten]
        exact ⟨fun ⟨l, a, b⟩ => ⟨l, List.mem_reverse.mp a, b⟩, fun ⟨l, a, b⟩ => ⟨l, List.mem_reverse.mpr a, b⟩⟩
      rw [q1]
      exact ⟨fun q => q.elim id (etm e), .inl⟩
end
end TW
set_option Elab.async false
set_option linter.all false
set_option maxRecDepth 100000
set_option maxHeartbeats 4000000
namespace TW
open PySem PySem.Spec PyProof.Rows L2
section
variable {P : Program} {w : World} {K : PySem.W.Frag} {mg : Str → Option Value} {base : Heap}
open LamX

def sp_law_one (K : PySem.W.Frag) (P : Program) (w : World) : Sp := fun vs H Q _ => ∃ (fa d : Addr) (fs : List V) (fes : List (List Ent)) (es0 : List Ent) (t' : ATab) (U : List Ent), vs = [.ref fa, .ref d] ∧ H fa = some (.lst fs) ∧ Paired (LisV K U H) fs fes ∧ 1 ≤ fs.length ∧ (∀ es ∈ fes, ∀ e, e ∈ es ↔ e ∈ es0) ∧ DueAt P w H d t' ∧ Of t' es0 ∧ UOk U ∧ TabOk U t' ∧ Tabs (TT K) H ∧ ∀ H', ExtN H H' → Tabs (TT K) H' → Q (.bl true) H'
theorem ok_law_one (T : Txt K mg) (TB : TabB base mg (tC' K) (tP K)) : CalG P w K mg base 9 "_law_one" (sp_law_one K P w) := by
  obtain ⟨fd, F⟩ := T.d_law_one
  refine calG_of F T.g_law_one (fun _ _ _ _ _ _ us hl => match us, hl with | [_, _], _ => rfl) sc_law_one (fun vs H Q E h => ?_) fun cdv A outer s H vs Q E hgd hr h => ?_
  · obtain ⟨fa, d, fs, fes, es0, t', U, rfl, hfa, hp, l1, mm, hd, od, uo, tokd, hTT, hq⟩ := h
    rfl
  · have hu := hu_of hr
    have hu64 := hr.units
    obtain ⟨fa, d, fs, fes, es0, t', U, rfl, hfa, hp, l1, mm, hd, od, uo, tokd, hTT, hq⟩ := h
    refine ⟨_, (pss_cons (ps_set (i := 2) sc_law_one.nd rfl (by first | exact Or.inl rfl | exact Or.inr rfl) (pe_ix ix_list (pv 0) pe_int (fun _ _ => rfl)))
    (pss_cons (ps_for PassesOwn.never rfl (pi_list (pv 0)) (pg_name (i := 3) sc_law_one.nd rfl (by first | exact Or.inl rfl | exact Or.inr rfl))
    (pss_cons (ps_if (PW.pt (pw_or (pt_not (pt_cmpR (op_eqI (ok_Listing_eq T TB) (hr.mono (by decide))) (pv 2) (pv 3) (nomark _))) (pw_or (pt_not (pt_cmpR (op_eqI (ok_Listing_eq T TB) (hr.mono (by decide))) (pv 3) (pv 2) (nomark _))) (pw_or1 (pt_cmpR op_ne (pe_callTy (cr_strI (ok_Listing_str T) (hr.mono (by decide))) (by rfl) T.f_str (by decide +kernel) (pa_cons (pv 2) pa_nil)) (pe_callTy (cr_strI (ok_Listing_str T) (hr.mono (by decide))) (by rfl) T.f_str (by decide +kernel) (pa_cons (pv 3) pa_nil)) (nomark _)))))) (pss_one (ps_ret pe_bl)) pss_nil)
    (pss_one (ps_if (PW.pt (pw_or (pt_not (pt_val (C8.pe_c (ok_law_told_right T TB) hr (by decide) rfl (pa_cons (pv 3) (pa_cons (pv 1) pa_nil))))) (pw_or1 (pt_not (pt_val (pe_cG (ok_law_sums_right T) hgd hr (by decide) rfl (pa_cons (pv 3) (pa_cons (pv 1) pa_nil)))))))) (pss_one (ps_ret pe_bl)) pss_nil))))
    (pss_one (ps_ret pe_bl)))), ?_⟩
    obtain ⟨v0, hv0⟩ : ∃ v, fs[0]? = some v := ⟨_, List.getElem?_eq_getElem (by omega)⟩
    obtain ⟨es, hes, p0, t0, rfl, hL0, tok0, of0⟩ := prd_get hp hv0
    have of0 := of0.mem (mm es (List.mem_of_getElem? hes))
    have s0 : Same t0 t' := of0.same od tok0 tokd
    refine ⟨_, rfl, fa, _, 0, _, rfl, rfl, SqL.of hfa, atI_nat hv0, ?_⟩
    refine next_ok ?_
    dsimp only
    refine seq_cut (fun σ H' => (∃ s3, σ = [some (.ref fa), some (.ref d), some (.ref p0), s3]) ∧ ExtN H H' ∧ Tabs (TT K) H') (fun N hN => ?_) (fun σ H' hP => ?_)
    · refine ⟨_, rfl, fa, rfl, ⟨_, SqL.of hfa⟩, ?_⟩
      refine for_src (src_list (xs := fs)) (fun i σ H' => (∃ s3, σ = [some (.ref fa), some (.ref d), some (.ref p0), s3]) ∧ ExtN H H' ∧ Tabs (TT K) H') ⟨⟨_, rfl⟩, ExtN.refl _, hTT⟩ (fun i σ H' _ h => SqL.of (h.2.1 _ _ hfa fun _ z => nomatch z)) (fun i x σ H2 H3 hi h hy => ?_) fun σ H' h => hN σ H' h
      obtain ⟨rfl, hx⟩ := hy
      obtain ⟨⟨s3, rfl⟩, e3, t3⟩ := h
      obtain ⟨es1, hes1, p, t, rfl, hL, tok, of1⟩ := prd_get hp hx
      have of1 := of1.mem (mm es1 (List.mem_of_getElem? hes1))
      have s1 : Same t t' := of1.same od tok tokd
      have s01 : Same t0 t := of0.same of1 tok0 tok
      obtain ⟨dx0, _, _, _, hins0, _⟩ := id hL0
      obtain ⟨dx, _, _, _, hins, _⟩ := id hL
      have in0 : ∀ {H'}, ExtN H H' → H' p0 = some (.ins (cListing K) dx0 _) := fun e => e _ _ hins0 (fun _ z => nomatch z)
      have in1 : ∀ {H'}, ExtN H H' → H' p = some (.ins (cListing K) dx _) := fun e => e _ _ hins (fun _ z => nomatch z)
      refine ⟨_, rfl, _, rfl, p0, p, dx0, dx, _, _, rfl, rfl, in0 e3, in1 e3, p0, p, t0, t, U, rfl, hL0.extN e3, hL.extN e3, uo, tok0, tok, t3, fun H4 f4 t4 => ⟨_, rfl, ?_⟩⟩
      rw [s01.eqL tok0 tok uo]
      have e4 := e3.trans f4
      refine ⟨_, rfl, iteF ?_⟩
      refine ⟨_, rfl, _, rfl, p, p0, dx, dx0, _, _, rfl, rfl, in1 e4, in0 e4, p, p0, t, t0, U, rfl, hL.extN e4, hL0.extN e4, uo, tok, tok0, t4, fun H5 f5 t5 => ⟨_, rfl, ?_⟩⟩
      rw [s01.symm.eqL tok tok0 uo]
      have e5 := e4.trans f5
      refine ⟨_, rfl, iteF ?_⟩
      refine ⟨_, rfl, p0, dx0, _, rfl, in0 e5, p0, t0, U, rfl, (hL0.extN e5).at_, uo, tok0, fun H6 f6 => ⟨_, rfl, ?_⟩⟩
      have e6 := e5.trans (ExtN.of f6)
      refine ⟨_, rfl, p, dx, _, rfl, in1 e6, p, t, U, rfl, (hL.extN e6).at_, uo, tok, fun H7 f7 => ⟨_, rfl, ?_⟩⟩
      have e7 := e6.trans (ExtN.of f7)
      have t7 := (t5.ext f6).ext f7
      refine ⟨rfl, _, rfl, if_ndecF (by rw [s01.strL tok0 tok]) ?_⟩
      refine next_ok ?_
      dsimp only
      refine ⟨_, rfl, _, rfl, p, d, t, t', U, rfl, hL.extN e7, hd.extN e7, uo, tok, tokd, s1, t7, fun H8 f8 t8 => ⟨true, rfl, iteF ?_⟩⟩
      have e8 := e7.trans f8
      refine ⟨_, rfl, _, rfl, p, d, t, t', U, rfl, hL.extN e8, hd.extN e8, uo, tok, tokd, s1, fun H9 f9 => ⟨true, rfl, iteF ?_⟩⟩
      exact next_ok ⟨⟨_, rfl⟩, e8.trans (ExtN.of f9), t8.ext f9⟩
    obtain ⟨⟨s3, rfl⟩, e3, t3⟩ := hP
    exact hq _ e3 t3
end
end TW
set_option Elab.async false
set_option linter.all false
set_option maxRecDepth 100000
set_option maxHeartbeats 4000000
namespace TW
open PySem PySem.Spec PyProof.Rows L2 LamX
open PySem.W (AllAlike Sortable dataLe dataLt alike)
/-! ### the rows of _law_key -/
def mksD (t : ATab) (k : LKey) (i : Nat) : PyData := .list ((sortTh (look t k i)).map Th.mark)
def rdat (t : ATab) (k : LKey) : PyData := .tuple [kdat k, .list ((List.range 5).map (mksD t k))]
def lkD (t : ATab) : PyData := .list ((sortK (t.map (·.1))).map (rdat t))
theorem rdat_toks (t : ATab) (k : LKey) : PySem.W.keyToks (rdat t k) = .inl 1 :: (PySem.W.keyToks (kdat k) ++ PySem.W.keyToksAll [.list ((List.range 5).map (mksD t k))]) := by
  unfold rdat
  rw [PySem.W.keyToks, PySem.W.toks_all_cons]
theorem alike_k (a b : LKey) : alike (kdat a) (kdat b) = true := by simp [kdat, alike, PySem.W.alikeAll]
theorem rdat_le (t : ATab) : dataLe false (rdat t) = dataLe false kdat := by
  funext a b
  by_cases e : a = b
  · subst e
    rw [le_iff.mpr (lex_irrefl (O := itemOrd) _), le_iff.mpr (lex_irrefl (O := itemOrd) _)]
  · have h : PyData.eqv (kdat b) (kdat a) = false := by rw [eqv_key]; exact decide_eq_false fun z => e z.symm
    have q := (PySem.W.toks_eqv (kdat b) (kdat a) (alike_k b a)).2 h
    show (!dataLt (rdat t b) (rdat t a)) = !dataLt (kdat b) (kdat a)
    congr 1
    show PyProof.Rows.lexLt itemOrd (PySem.W.keyToks (rdat t b)) (PySem.W.keyToks (rdat t a)) = PyProof.Rows.lexLt itemOrd (PySem.W.keyToks (kdat b)) (PySem.W.keyToks (kdat a))
    rw [rdat_toks, rdat_toks, lex_self (O := itemOrd), q]
theorem eqv_marks {i : Nat} : ∀ {l l' : List Th}, (∀ th ∈ l, Th.ok i th) → (∀ th ∈ l', Th.ok i th) → PyData.eqvAll (l.map Th.mark) (l'.map Th.mark) = decide (l = l')
  | [], [], _, _ => by simp [PyData.eqvAll]
  | [], _ :: _, _, _ => by simp [PyData.eqvAll]
  | _ :: _, [], _, _ => by simp [PyData.eqvAll]
  | p :: l, q :: l', o, o' => by
    have h : PyData.eqv p.mark q.mark = decide (p = q) := by
      rw [Bool.eq_iff_iff, decide_eq_true_eq]
      refine ⟨eqv_th (o p List.mem_cons_self) (o' q List.mem_cons_self), fun e => ?_⟩
      subst e
      exact eqv_self (alike_th (o p List.mem_cons_self) (o p List.mem_cons_self))
    rw [List.map_cons, List.map_cons, PyData.eqvAll, eqv_marks (fun x hx => o x (List.mem_cons_of_mem _ hx)) (fun x hx => o' x (List.mem_cons_of_mem _ hx)), h, Bool.eq_iff_iff]
    simp
theorem eqvAll_two {α : Type} {f g : α → PyData} : ∀ l : List α, PyData.eqvAll (l.map f) (l.map g) = l.all fun i => PyData.eqv (f i) (g i)
  | [] => by simp [PyData.eqvAll]
  | x :: l => by rw [List.map_cons, List.map_cons, PyData.eqvAll, eqvAll_two l, List.all_cons]
section
variable {U : List Ent} {t t' : ATab}
theorem mk_ok (o : TabOk U t) (uo : UOk U) (k : LKey) (i : Nat) : ∀ th ∈ sortTh (look t k i), Th.ok i th := fun th h => look_ok o uo (List.mem_mergeSort.mp h)
theorem eqv_row (o : TabOk U t) (o' : TabOk U t') (uo : UOk U) (k k' : LKey) : PyData.eqv (rdat t k) (rdat t' k') = (decide (k = k') && rowEq t t' k) := by
  unfold rdat
  rw [PyData.eqv, PyData.eqvAll, PyData.eqvAll, PyData.eqvAll, eqv_key, Bool.and_true]
  by_cases e : k = k'
  · subst e
    congr 1
    rw [PyData.eqv, eqvAll_two]
    unfold rowEq
    congr 1
    funext i
    unfold mksD
    rw [PyData.eqv]
    exact eqv_marks (mk_ok o uo k i) (mk_ok o' uo k i)
  · rw [decide_eq_false e, Bool.false_and, Bool.false_and]
theorem eqv_rows (o : TabOk U t) (o' : TabOk U t') (uo : UOk U) : ∀ ks ks' : List LKey, PyData.eqvAll (ks.map (rdat t)) (ks'.map (rdat t')) = (decide (ks = ks') && ks.all (rowEq t t'))
  | [], [] => by simp [PyData.eqvAll]
  | [], _ :: _ => by simp [PyData.eqvAll]
  | _ :: _, [] => by simp [PyData.eqvAll]
  | k :: ks, k' :: ks' => by
    rw [List.map_cons, List.map_cons, PyData.eqvAll, eqv_rows o o' uo ks ks', eqv_row o o' uo, List.all_cons, Bool.eq_iff_iff]
    simp only [Bool.and_eq_true, decide_eq_true_eq, List.cons.injEq]
    exact ⟨fun ⟨⟨a, b⟩, c, d⟩ => ⟨⟨a, c⟩, b, d⟩, fun ⟨⟨a, c⟩, b, d⟩ => ⟨⟨a, b⟩, c, d⟩⟩
theorem eqv_lk (o : TabOk U t) (o' : TabOk U t') (uo : UOk U) : PyData.eqv (lkD t) (lkD t') = eqL t t' := by
  unfold lkD eqL
  rw [PyData.eqv, eqv_rows o o' uo]
  congr 1
  rw [Bool.eq_iff_iff, List.all_eq_true, List.all_eq_true]
  exact ⟨fun h k hk => h k (List.mem_mergeSort.mpr hk), fun h k hk => h k (List.mem_mergeSort.mp hk)⟩
theorem Same.eqL2 {t2 t2' : ATab} (h : Same t t') (h2 : Same t2 t2') (o : TabOk U t) (o' : TabOk U t') (o2 : TabOk U t2) (o2' : TabOk U t2') (uo : UOk U) : TW.eqL t t2 = TW.eqL t' t2' := by
  unfold TW.eqL
  rw [h.sortK o o', h2.sortK o2 o2']
  congr 1
  have hk := h.keys o o'
  have hr : rowEq t t2 = rowEq t' t2' := by
    funext k
    unfold rowEq
    congr 1
    funext i
    rw [h.sortTh o uo k i, h2.sortTh o2 uo k i]
  rw [hr, Bool.eq_iff_iff, List.all_eq_true, List.all_eq_true]
  exact ⟨fun q k a => q k (hk.mem_iff.mpr a), fun q k a => q k (hk.mem_iff.mp a)⟩
/-! ### as data -/
theorem canLay_marks {i : Nat} {l : List Th} (o : ∀ th ∈ l, Th.ok i th) : PyData.canLayAll0 (l.map Th.mark) = true := canLayAll_map fun th h => canLay_th (o th h)
theorem canLay_mkD (o : TabOk U t) (uo : UOk U) (k : LKey) (i : Nat) : (mksD t k i).canLay0 = true := by
  unfold mksD
  rw [PyData.canLay0]
  exact canLay_marks (mk_ok o uo k i)
theorem depth_mkD (k : LKey) (i : Nat) : (mksD t k i).depth ≤ 3 := by
  have := depthAll_map (l := sortTh (look t k i)) (mk := Th.mark) (c := 2) fun th _ => depth_th th
  unfold mksD
  rw [PyData.depth]
  omega
theorem canLay_rdat (o : TabOk U t) (uo : UOk U) {k : LKey} (hk : KeyOk k) : (rdat t k).canLay0 = true := by
  have : PyData.canLayAll0 ((List.range 5).map (mksD t k)) = true := canLayAll_map fun i _ => canLay_mkD o uo k i
  unfold rdat
  rw [PyData.canLay0, PyData.canLayAll0, PyData.canLayAll0, PyData.canLayAll0, canLay_key hk, PyData.canLay0, this]
  rfl
theorem depth_rdat (k : LKey) : (rdat t k).depth ≤ 6 := by
  have h1 := depthAll_map (l := List.range 5) (mk := mksD t k) (c := 3) fun i _ => depth_mkD k i
  have h2 := depth_key k
  unfold rdat
  rw [PyData.depth, PyData.depthAll, PyData.depthAll, PyData.depthAll, PyData.depth]
  omega
theorem shaped_lk (o : TabOk U t) (uo : UOk U) : SeqAt.shaped (lkD t) = true := shaped_list (c := 6) (fun k hk => by
  obtain ⟨r, hr, e⟩ := List.mem_map.mp (List.mem_mergeSort.mp hk)
  exact canLay_rdat o uo (e ▸ o.okK uo hr)) (fun k _ => depth_rdat k) (by decide)
theorem alikeAll_two {α : Type} {f g : α → PyData} : ∀ {l : List α}, (∀ i ∈ l, alike (f i) (g i) = true) → PySem.W.alikeAll (l.map f) (l.map g) = true
  | [], _ => by simp [PySem.W.alikeAll]
  | x :: l, h => by rw [List.map_cons, List.map_cons, PySem.W.alikeAll, h x List.mem_cons_self, alikeAll_two fun i hi => h i (List.mem_cons_of_mem _ hi)]; rfl
theorem alikeAll_ths {i : Nat} : ∀ {l l' : List Th}, (∀ th ∈ l, Th.ok i th) → (∀ th ∈ l', Th.ok i th) → PySem.W.alikeAll (l.map Th.mark) (l'.map Th.mark) = true
  | [], _, _, _ => by simp [PySem.W.alikeAll]
  | _ :: _, [], _, _ => by simp [PySem.W.alikeAll]
  | p :: l, q :: l', o, o' => by
    rw [List.map_cons, List.map_cons, PySem.W.alikeAll, alike_th (o p List.mem_cons_self) (o' q List.mem_cons_self), alikeAll_ths (fun x hx => o x (List.mem_cons_of_mem _ hx)) fun x hx => o' x (List.mem_cons_of_mem _ hx)]
    rfl
theorem alike_rdat (o : TabOk U t) (uo : UOk U) (k k' : LKey) : alike (rdat t k) (rdat t k') = true := by
  have : PySem.W.alikeAll ((List.range 5).map (mksD t k)) ((List.range 5).map (mksD t k')) = true := alikeAll_two fun i _ => by
    unfold mksD
    rw [alike]
    exact alikeAll_ths (mk_ok o uo k i) (mk_ok o uo k' i)
  unfold rdat
  rw [alike, PySem.W.alikeAll, PySem.W.alikeAll, PySem.W.alikeAll, alike_k, alike, this]
  rfl
theorem alike_rows (o : TabOk U t) (uo : UOk U) (ks : List LKey) : AllAlike (ks.map (rdat t)) := by
  intro d hd d' hd'
  obtain ⟨k, _, rfl⟩ := List.mem_map.mp hd
  obtain ⟨k', _, rfl⟩ := List.mem_map.mp hd'
  exact alike_rdat o uo k k'
theorem sortable_rows (ks : List LKey) : Sortable (ks.map (rdat t)) := .inl fun d hd => by
  obtain ⟨k, _, rfl⟩ := List.mem_map.mp hd
  exact ⟨_, _, rfl⟩
end
/-! ### a heap without some addresses -/
def wo (l : List Addr) (H : Hp) : Hp := fun b => if b ∈ l then none else H b
theorem wo_at {l : List Addr} {H : Hp} {b : Addr} (n : b ∉ l) : wo l H b = H b := if_neg n
theorem wo_ext {l : List Addr} {H H' : Hp} (e : Ext H H') : Ext (wo l H) (wo l H') := fun b o h => by
  by_cases n : b ∈ l
  · unfold wo at h; rw [if_pos n] at h; cases h
  · rw [wo_at n] at h ⊢; exact e _ _ h
theorem wo_sub {l l' : List Addr} {H : Hp} (s : ∀ b ∈ l, b ∈ l') : Ext (wo l' H) (wo l H) := fun b o h => by
  by_cases n : b ∈ l'
  · unfold wo at h; rw [if_pos n] at h; cases h
  · rw [wo_at n] at h; rw [wo_at fun z => n (s b z)]; exact h
theorem wo_all {l : List Addr} {H : Hp} : Ext (wo l H) H := fun b o h => by
  by_cases n : b ∈ l
  · unfold wo at h; rw [if_pos n] at h; cases h
  · rw [wo_at n] at h; exact h
theorem wo_upd {l : List Addr} {H : Hp} {p : Addr} {o : HO} (h : p ∈ l) : wo l (upd H p o) = wo l H := by
  funext b
  by_cases n : b ∈ l
  · unfold wo; rw [if_pos n, if_pos n]
  · rw [wo_at n, wo_at n, upd_ne fun z => n (by rw [z]; exact h)]
theorem wo_imm {l : List Addr} {H : Hp} (h : ∀ b ∈ l, ∀ o, H b = some o → imm o = false) : Imm H (wo l H) := fun b o hb i => by
  by_cases n : b ∈ l
  · rw [h b n o hb] at i; cases i
  · rw [wo_at n]; exact hb
section
variable {X : Cx} (P : Program) (w : World) (K : PySem.W.Frag)
theorem kSortKD (hc : X.calm = true) (hu : X.A.units + 64 < cLine) (hP : X.prog = P := by rfl) (hw : X.w = w := by rfl) (hK : X.K = K := by rfl) : CallR X (.builtin "sorted") (rSortK P w K) := by subst hP; subst hw; subst hK; exact cr_sortK hc hu
end
def scKey : Scope := relab <| match defBody s_law_key with
  | [.Return (some (.Call _ [.ListComp _ _ sc _] _ _)) _] => sc
  | _ => default
end TW
set_option Elab.async false
set_option linter.all false
set_option maxRecDepth 100000
set_option maxHeartbeats 4000000
namespace TW
open PySem PySem.Spec PyProof.Rows L2
section
variable {P : Program} {w : World} {K : PySem.W.Frag} {mg : Str → Option Value} {base : Heap}
open LamX

theorem prd_dpAll {K : PySem.W.Frag} {H : Hp} {α : Type} {mk : α → PyData} {zs : List V} {l : List α} (h : Paired (fun (z : V) (x : α) => Dp K H z (mk x)) zs l) : DpAll K H zs (l.map mk) := dpAll_of (fun _ _ q => q) h
def sp_law_key (K : PySem.W.Frag) (P : Program) (w : World) : Sp := fun vs H Q _ => ∃ (d : Addr) (t : ATab) (U : List Ent), vs = [.ref d] ∧ DueAt P w H d t ∧ UOk U ∧ TabOk U t ∧ ∀ v H', Ext H H' → Dp K H' v (lkD t) → Q v H'
theorem ok_law_key (T : Txt K mg) : C8.Cal P w K mg base 1 "_law_key" (sp_law_key K P w) [] := by
  obtain ⟨fd, F⟩ := T.d_law_key
  refine cal_of F T.g_law_key (fun _ _ _ _ _ _ us hl => match us, hl with | [_], _ => rfl) sc_law_key (fun vs H Q E h => ?_) fun cdv A outer s H vs Q E hr h => ?_
  · obtain ⟨d, t, U, rfl, ⟨kvs, T1, hdic, htab, hT1⟩, uo, tok, hq⟩ := h
    rfl
  · have hu := hu_of hr
    have hu64 := hr.units
    obtain ⟨d, t, U, rfl, ⟨kvs, T1, hdic, htab, hT1⟩, uo, tok, hq⟩ := h
    refine ⟨_, (pss_one (ps_ret (pe_callB (cr_sortL hu64) (by rfl) T.f_sorted (by decide +kernel) (pa_cons (pe_lock (pe_lc (own := [("_law_key_here", 1), ("_law_kept", 2)]) (by rfl) sc_law_key.nd (pi_itemsT (pv 0)) (blkOk_by (N := N_law_key) (sc := defScope s_law_key) (by decide +kernel)) (fun _ _ _ _ _ => (kTup K (n := 2) (by rfl) (pgs_cons (pg_name (i := 1) sc_law_key.nd rfl (by first | exact Or.inl rfl | exact Or.inr rfl)) (pgs_cons (pg_name (i := 2) sc_law_key.nd rfl (by first | exact Or.inl rfl | exact Or.inr rfl)) pgs_nil)))) (fun _ _ _ _ _ => by exact pts_nil) (fun _ _ _ _ _ => by exact (pe_tup (pa_cons (pv 1) (pa_cons (pe_lc (own := [("_law_some", 3)]) (by rfl) sc_law_key.nd (kList K (pv 2)) (blkOk_by (N := N_law_key) (sc := scKey) (by decide +kernel)) (fun _ _ _ _ _ => (pg_name (i := 3) sc_law_key.nd rfl (by first | exact Or.inl rfl | exact Or.inr rfl))) (fun _ _ _ _ _ => by exact pts_nil) (fun _ _ _ _ _ => by exact (pe_callB (kSortKD P w K rfl hu64) (by rfl) T.f_sorted (by decide +kernel) (pa_cons (pv 3) pa_nil)))) pa_nil)))))) pa_nil)))), ?_⟩
    subst hT1
    refine ⟨d, .dT kvs, hdic, True.intro, fun od => ?_⟩
    have hL : Imm H (upd H d (.frz od (.dT kvs))) := imm_frz hdic
    have tdL : upd H d (.frz od (.dT kvs)) d = some (.frz od (.dT kvs)) := upd_same
    have htabL : DTabAt P w (upd H d (.frz od (.dT kvs))) kvs T1 := htab.extD (ExtD.upd hdic)
    have exL : ∀ {H'}, Ext (upd H d (.frz od (.dT kvs))) H' → Ext H (upd H' d (.dT kvs)) := fun e => ext_frz hdic e
    generalize upd H d (.frz od (.dT kvs)) = G at hL tdL htabL exL
    have kl : (absD T1).length = kvs.length := dtab_len htab
    have kl2 := tok.len uo
    refine ⟨_, rfl, d, od, kvs, rfl, tdL, fun D hD => ?_⟩
    have nDd : D ≠ d := (ne_of_none tdL hD).symm
    refine lc_src src_itemsT (fun i H' => Ext G H' ∧ ∃ zs, H' D = some (.lst zs) ∧ Paired (fun (z : V) (k : LKey) => Dp K (wo [D, d] H') z (rdat (absD T1) k)) zs (((absD T1).map (·.1)).take i)) ⟨Ext.upd hD, [], upd_same, .nil⟩ (fun i H' _ h => h.1 _ _ tdL) (fun i x H2 H3 hi h hy => ?_) fun H2 h => ?_
    · obtain ⟨T2, b, k0, v, hkv, rfl, hT2, hbk, rfl⟩ := hy
      obtain ⟨e2, zs, hD2, hzp⟩ := h
      obtain ⟨⟨key, ka, ds, cs⟩, hT, hk0, hrow⟩ := prd_get (htabL.extD (ExtD.of e2)) hkv
      have hk0 : k0 = kkey key := hk0
      subst hk0
      obtain rfl : v = .ref ka := hrow.ref
      have hmem : (key, cs) ∈ absD T1 := List.mem_map.mpr ⟨_, List.mem_of_getElem? hT, rfl⟩
      have l5 : ds.length = 5 := hrow.l5
      have c5 : cs.length = 5 := hrow.c5
      have hki : ((absD T1).map (·.1))[i]? = some key := by
        unfold absD
        rw [List.map_map, List.getElem?_map, hT]
        rfl
      have e34 : Ext H2 (upd H2 T2 (.tup [.ref b, .ref ka])) := Ext.upd hT2
      have tT : upd H2 T2 (.tup [.ref b, .ref ka]) T2 = some (.tup [.ref b, .ref ka]) := upd_same
      generalize upd H2 T2 (.tup [.ref b, .ref ka]) = H4 at e34 tT
      have hb4 : H4 b = some (.tup (kvals key)) := e34 _ _ hbk
      have hD4 := e34 _ _ hD2
      have hd4 := e34 _ _ (e2 _ _ tdL)
      have hrow4 := hrow.extD (ExtD.of e34)
      have hlst4 : H4 ka = some (.lst (ds.map V.ref)) := hrow4.lst
      refine ⟨T2, _, rfl, SqT.of tT, rfl, _, _, rfl, _, _, rfl, rfl, rfl, _, rfl, _, rfl, ka, rfl, ⟨_, SqL.of hlst4⟩, fun D2 hD2n => ?_⟩
      have n2D : D2 ≠ D := (ne_of_none hD4 hD2n).symm
      have n2d : D2 ≠ d := (ne_of_none hd4 hD2n).symm
      have n2b : D2 ≠ b := (ne_of_none hb4 hD2n).symm
      refine lc_src (src_list (xs := ds.map V.ref)) (fun m H' => Ext H4 H' ∧ ∃ ys, H' D2 = some (.lst ys) ∧ Paired (fun (z : V) (i : Nat) => Dp K (wo [D2, D, d] H') z (mksD (absD T1) key i)) ys ((List.range 5).take m)) ⟨Ext.upd hD2n, [], upd_same, .nil⟩ (fun m H' _ h => SqL.of (h.1 _ _ hlst4)) (fun m x H5 H6 hm h hy => ?_) fun H5 h => ?_
      · obtain ⟨rfl, hx'⟩ := hy
        obtain ⟨e5, ys, hy5, hyp⟩ := h
        rw [List.length_map, l5] at hm
        obtain ⟨l0, hl0, rfl⟩ : ∃ l, ds[m]? = some l ∧ x = .ref l := by
          rw [List.getElem?_map] at hx'
          cases hl : ds[m]? with
          | none => rw [hl] at hx'; cases hx'
          | some l => rw [hl] at hx'; exact ⟨l, rfl, (Option.some.inj hx').symm⟩
        obtain ⟨ms, hms⟩ : ∃ ms, cs[m]? = some ms := ⟨_, List.getElem?_eq_getElem (by rw [c5]; exact hm)⟩
        have hlook : look (absD T1) key m = ms := look_of tok.nod hmem hms
        have mok : ∀ th ∈ ms, Th.ok m th := fun th h => tok.okT uo hmem hms h
        obtain ⟨bs, k1, k2, k3, k4, k5, _⟩ := map_sort (K := K) ((hrow4.map m l0 ms hl0 hms).ext e5) mok
        refine ⟨rfl, _, rfl, l0, bs, rfl, k1, k2, k3, k4, fun q hq0 => ?_⟩
        have nqD2 : q ≠ D2 := (ne_of_none hy5 hq0).symm
        have nqD : q ≠ D := (ne_of_none (e5 _ _ hD4) hq0).symm
        have nqd : q ≠ d := (ne_of_none (e5 _ _ hd4) hq0).symm
        have f6 : Ext H6 (upd H6 q (.lst (srt bs))) := Ext.upd hq0
        have tq : upd H6 q (.lst (srt bs)) q = some (.lst (srt bs)) := upd_same
        generalize upd H6 q (.lst (srt bs)) = H7 at f6 tq
        have yl := prd_len hyp
        rw [List.length_take, List.length_range] at yl
        refine ⟨ys, f6 _ _ hy5, Nat.lt_of_le_of_lt (show ys.length ≤ 5 by omega) (by decide), Ext.mut (e5.trans f6) hD2n, _, upd_same, ?_⟩
        rw [wo_upd (by simp), List.take_add_one, List.getElem?_range hm]
        have im7 : Imm H7 (wo [D2, D, d] H7) := wo_imm fun b hb o ho => by
          simp only [List.mem_cons, List.not_mem_nil, or_false] at hb
          rcases hb with rfl | rfl | rfl
          · rw [f6 _ _ hy5] at ho; cases ho; rfl
          · rw [f6 _ _ (e5 _ _ hD4)] at ho; cases ho; rfl
          · rw [f6 _ _ (e5 _ _ hd4)] at ho; cases ho; rfl
        refine prd_app (prd_mono (fun z i q => Dp.ext (wo_ext f6) _ _ q) hyp) (.cons ?_ .nil)
        unfold mksD
        rw [hlook]
        exact marks_dp (SqL.of (by rw [wo_at (by simp [nqD2, nqD, nqd])]; exact tq)) (prd_mono (fun _ _ z => MkAt.imm ((Imm.of f6).trans im7) z) k5)
      · obtain ⟨e5, ys, hy5, hyp⟩ := h
        rw [List.length_map, l5, show (List.range 5).take 5 = List.range 5 from rfl] at hyp
        refine ⟨by show 2 ≤ sizeLine; decide, fun T3 hT3 => ?_⟩
        have hD5 := e5 _ _ hD4
        have hd5 := e5 _ _ hd4
        have nTD : T3 ≠ D := (ne_of_none hD5 hT3).symm
        have nTd : T3 ≠ d := (ne_of_none hd5 hT3).symm
        have f6 : Ext H5 (upd H5 T3 (.tup [.ref b, .ref D2])) := Ext.upd hT3
        have tT3 : upd H5 T3 (.tup [.ref b, .ref D2]) T3 = some (.tup [.ref b, .ref D2]) := upd_same
        generalize upd H5 T3 (.tup [.ref b, .ref D2]) = H6 at f6 tT3
        have hb6 := f6 _ _ (e5 _ _ hb4)
        have nbD : b ≠ D := ne_of hb6 (f6 _ _ hD5) (fun z => nomatch z)
        have nbd : b ≠ d := ne_of hb6 (f6 _ _ hd5) (fun z => nomatch z)
        have zl := prd_len hzp
        rw [List.length_take, List.length_map] at zl
        refine ⟨zs, f6 _ _ hD5, Nat.lt_of_le_of_lt (show zs.length ≤ 1000 by omega) (by decide), Ext.mut (((e2.trans e34).trans e5).trans f6) hD, _, upd_same, ?_⟩
        rw [wo_upd (by simp), List.take_add_one, hki]
        refine prd_app (prd_mono (fun z k q => Dp.ext (wo_ext ((e34.trans e5).trans f6)) _ _ q) hzp) (.cons ?_ .nil)
        have hyp6 : Paired (fun (z : V) (i : Nat) => Dp K (wo [D, d] H6) z (mksD (absD T1) key i)) ys (List.range 5) := prd_mono (fun z i q => Dp.ext ((wo_sub (fun b hb => List.mem_cons_of_mem _ hb)).trans (wo_ext f6)) _ _ q) hyp
        exact .tup (SqT.of (by rw [wo_at (by simp [nTD, nTd])]; exact tT3)) (.cons (dp_key ⟨b, rfl, by rw [wo_at (by simp [nbD, nbd])]; exact hb6⟩) (.cons (.lst (SqL.of (by rw [wo_at (by simp [n2D, n2d])]; exact f6 _ _ hy5)) (prd_dpAll hyp6)) .nil))
    · obtain ⟨e2, zs, hD2, hzp⟩ := h
      rw [← kl, ← List.length_map (f := fun x : LKey × List (List Th) => x.1), List.take_length] at hzp
      refine ⟨e2 _ _ tdL, ?_⟩
      have eH := exL e2
      have hD3 : upd H2 d (.dT kvs) D = some (.lst zs) := by rw [upd_ne nDd]; exact hD2
      have hp3 : Paired (fun (z : V) (k : LKey) => Dp K (upd H2 d (.dT kvs)) z (rdat (absD T1) k)) zs ((absD T1).map (·.1)) := prd_mono (fun z k q => Dp.ext wo_all _ _ (by rw [wo_upd (l := [D, d]) (by simp)]; exact q)) hzp
      generalize upd H2 d (.dT kvs) = H3 at eH hD3 hp3
      obtain ⟨so, sf⟩ := sortOk_of (K := K) (mk := rdat (absD T1)) hp3 (fun v x h => h) (alike_rows tok uo _) (sortable_rows _) (fun k _ => Nat.le_trans (depth_rdat k) (by decide))
      refine ⟨D, _, rfl, SqL.of (by rw [sf]; exact hD3), so, fun q hq0 => ?_⟩
      have eq0 : Ext H3 (upd H3 q (.lst (srt ((zs.zip ((absD T1).map (·.1))).map fun p => (p.1, rdat (absD T1) p.2))))) := Ext.upd hq0
      refine hq _ _ (eH.trans eq0) ?_
      have hs := srt_prd (mk := rdat (absD T1)) hp3
      rw [rdat_le] at hs
      exact .lst (SqL.of upd_same) (prd_dpAll (prd_mono (fun z k q => Dp.ext eq0 _ _ q) hs))
end
end TW
set_option Elab.async false
set_option linter.all false
set_option maxRecDepth 100000
set_option maxHeartbeats 4000000
namespace TW
open PySem PySem.Spec PyProof.Rows L2 LamX
/-! ### all entries that can come of some -/
def aloneAt (e : Ent) (i : Nat) : List Ent := match e.th[i]? with
  | some (some th) => [aloneE e.key i th]
  | _ => []
def closE (e : Ent) : List Ent := e :: noneE e.key :: (List.range 5).flatMap (aloneAt e)
def univ (es : List Ent) : List Ent := es.flatMap closE
theorem alone_mem {e x : Ent} {i : Nat} (h : x ∈ aloneAt e i) : ∃ th, e.th[i]? = some (some th) ∧ x = aloneE e.key i th := by
  unfold aloneAt at h
  split at h
  · rename_i th q
    exact ⟨th, q, List.mem_singleton.mp h⟩
  · cases h
theorem alone_of {e : Ent} {i : Nat} {th : Th} (h : e.th[i]? = some (some th)) : aloneE e.key i th ∈ aloneAt e i := by
  unfold aloneAt
  rw [h]
  exact List.mem_singleton.mpr rfl
theorem clos_cases {e x : Ent} (h : x ∈ closE e) : x = e ∨ x = noneE e.key ∨ ∃ i th, i < 5 ∧ e.th[i]? = some (some th) ∧ x = aloneE e.key i th := by
  rcases List.mem_cons.mp h with h | h
  · exact .inl h
  · rcases List.mem_cons.mp h with h | h
    · exact .inr (.inl h)
    · obtain ⟨i, hi, h⟩ := List.mem_flatMap.mp h
      obtain ⟨th, a, b⟩ := alone_mem h
      exact .inr (.inr ⟨i, th, List.mem_range.mp hi, a, b⟩)
theorem clos_key {e x : Ent} (h : x ∈ closE e) : x.key = e.key := by
  rcases clos_cases h with rfl | rfl | ⟨i, th, _, _, rfl⟩ <;> rfl
theorem clos_len {e : Ent} : (closE e).length ≤ 7 := by
  have := len_flat (c := 1) (l := List.range 5) (f := aloneAt e) fun i _ => by
    unfold aloneAt
    split
    · exact Nat.le_refl _
    · exact Nat.zero_le _
  rw [List.length_range] at this
  unfold closE
  rw [List.length_cons, List.length_cons]
  omega
theorem none_ok {k : LKey} (h : KeyOk k) : EntOk (noneE k) := ⟨h, rfl, fun i th q => absurd q noneE_at⟩
theorem alone_ok {k : LKey} {i : Nat} {th : Th} (h : KeyOk k) (o : th.ok i) : EntOk (aloneE k i th) := ⟨h, by show ((List.range 5).map _).length = 5; rw [List.length_map, List.length_range], fun j x q => by
  obtain ⟨a, _, b⟩ := aloneE_at.mp q
  rw [a, ← b]
  exact o⟩
theorem univ_sub {es : List Ent} {e : Ent} (h : e ∈ es) : e ∈ univ es := List.mem_flatMap.mpr ⟨e, h, List.mem_cons_self⟩
theorem univ_ok {es : List Ent} (l : es.length ≤ 36) (ok : ∀ e ∈ es, EntOk e) : UOk (univ es) := by
  refine ⟨?_, fun x hx => ?_, fun x hx => ?_, fun x hx i th q => ?_⟩
  · have := len_flat (c := 7) (l := es) (f := closE) fun e _ => clos_len
    unfold univ
    omega
  · obtain ⟨e, he, hx⟩ := List.mem_flatMap.mp hx
    rcases clos_cases hx with rfl | rfl | ⟨i, th, _, q, rfl⟩
    · exact ok _ he
    · exact none_ok (ok e he).key
    · exact alone_ok (ok e he).key ((ok e he).each i th q)
  · obtain ⟨e, he, hx⟩ := List.mem_flatMap.mp hx
    rw [clos_key hx]
    exact List.mem_flatMap.mpr ⟨e, he, List.mem_cons_of_mem _ List.mem_cons_self⟩
  · obtain ⟨e, he, hx⟩ := List.mem_flatMap.mp hx
    have five := (ok e he).five
    have go : ∀ (i : Nat) (th : Th), e.th[i]? = some (some th) → aloneE e.key i th ∈ univ es := fun i th q => by
      have hi : i < 5 := by have := (List.getElem?_eq_some_iff.mp q).1; omega
      exact List.mem_flatMap.mpr ⟨e, he, List.mem_cons_of_mem _ (List.mem_cons_of_mem _ (List.mem_flatMap.mpr ⟨i, List.mem_range.mpr hi, alone_of q⟩))⟩
    rcases clos_cases hx with rfl | rfl | ⟨j, y, hj, a, rfl⟩
    · exact go i th q
    · exact absurd q noneE_at
    · obtain ⟨b, _, c⟩ := aloneE_at.mp q
      rw [b, ← c]
      exact go j y a
/-! ### what else changes with the hand -/
section
variable {P : Program} {w : World} {K : PySem.W.Frag} {H H' : Hp} {h : Addr} {n : Nat}
theorem EsAt.kp {v : V} {es : List Ent} (k : KpH h H H') (hh : HandAt H h n) (q : EsAt K H v es) : EsAt K H' v es := by
  obtain ⟨a, ws, rfl, h2, h3⟩ := q
  refine ⟨a, ws, rfl, k _ _ (fun e => ?_) h2, ent_imm (KpH.imm k hh) h3⟩
  obtain ⟨g, s, t, q, _⟩ := hh
  subst e
  rw [h2] at q
  injection q with q
  injection q with q
  subst q
  cases h3 with
  | cons a _ => obtain ⟨_, _, e, _⟩ := a; cases e
theorem EsAt.extN {v : V} {es : List Ent} (e : ExtN H H') (q : EsAt K H v es) : EsAt K H' v es := let ⟨a, ws, h1, h2, h3⟩ := q; ⟨a, ws, h1, e _ _ h2 (fun _ z => nomatch z), ent_imm (ExtN.imm e) h3⟩
theorem MapAt.kp {i : Nat} {d : Addr} {ms : List Th} (k : KpH h H H') (hh : HandAt H h n) (q : MapAt P w i H d ms) : MapAt P w i H' d ms := by
  obtain ⟨o, ho, hk⟩ := q.obj
  refine q.keep (KpH.imm k hh) ((k _ _ (hand_is hh ho fun xs z => ?_) ho).trans ho.symm)
  rcases hk with ⟨kvs, rfl⟩ | ⟨us, rfl⟩ <;> cases z
theorem DRowAt.kp {v : V} {r : DRow} (k : KpH h H H') (hh : HandAt H h n) (q : DRowAt P w H v r) : DRowAt P w H' v r := by
  refine ⟨q.ref, k _ _ ?_ q.lst, q.l5, q.c5, fun i d ms a b => (q.map i d ms a b).kp k hh⟩
  have h5 := q.l5
  have hl := q.lst
  match hr : r.2.1 with
  | [] => rw [hr] at h5; cases h5
  | d :: ds =>
    rw [hr] at hl
    exact hand_lst hh hl fun i z => nomatch z
theorem DueAt.kp {d : Addr} {t : ATab} (k : KpH h H H') (hh : HandAt H h n) (q : DueAt P w H d t) : DueAt P w H' d t :=
  let ⟨kvs, T, a, b, c⟩ := q; ⟨kvs, T, k _ _ (hand_is hh a fun _ z => nomatch z) a, prd_mono (fun _ _ z => ⟨z.1, z.2.kp k hh⟩) b, c⟩
end
theorem tab_ok {U es : List Ent} (uo : UOk U) (sub : ∀ e ∈ es, e ∈ U) : TabOk U (tabOf es) ∧ Of (tabOf es) es := ⟨tabOk_fold uo tabOk_nil sub, of_tab fun e he => (uo.each e (sub e he)).five⟩
end TW
set_option Elab.async false
set_option linter.all false
set_option maxRecDepth 100000
set_option maxHeartbeats 4000000
namespace TW
open PySem PySem.Spec PyProof.Rows L2
section
variable {P : Program} {w : World} {K : PySem.W.Frag} {mg : Str → Option Value} {base : Heap}
open LamX

theorem fnGn_of {P : Program} {w : World} {K : PySem.W.Frag} {mg : Str → Option Value} {base : Heap} {x qual : Str} {params : Arguments} {body : List Stmt} {scope : Scope} {f : Addr} {fd : FuncData} {N ps : List Str} {k : Nat} {sp : Sp} (F : FunD K x qual params body scope [] [] f fd)
    (S : FnScope N ps scope) (len : ∀ vs H Q E, sp vs H Q E → vs.length = ps.length)
    (hbody : ∀ (cdv : Value) (A : Around) (outer : List Env) (s : Shared) (H : Hp) (vs : List V) (Q : VK) (E : XK), A.guards = some [] → Room k (A.deeper (envOfC qual scope s.heap.objs.size f cdv)) → sp vs H Q E →
      ∃ t, PSs (cxOf C8.CX0 P w K mg base N qual scope f cdv A outer s H E).nox body t ∧ t { nx := fun _ H' => Q .non H', rt := Q } (start N vs) H) : FnG P w K mg base (k + 1) f fd ps sp :=
  fnG_of F S len fun cdv A outer s H vs Q E hg hr h => let ⟨t, a, b⟩ := hbody cdv A outer s H vs Q E hg hr h; ⟨t, a.nox, b⟩
def sp_law (K : PySem.W.Frag) : Sp := fun vs H Q _ => ∃ (a : Addr) (ns : List Int), vs = [.ref a] ∧ SqL K H a (ns.map V.int) ∧ ns.length ≤ 63 ∧ Tabs (TT K) H ∧ ∀ H', Q (.bl true) H'
theorem tabs_kp {T : List (Addr × Str)} {H H' : Hp} {h : Addr} {n : Nat} (t : Tabs T H) (k : KpH h H H') (hh : HandAt H h n) : Tabs T H' := fun x hx => by
  obtain ⟨ps, a1, a2, a3⟩ := t x hx
  refine ⟨ps, k _ _ (hand_is hh a1 fun _ z => nomatch z) a1, a2, fun pos cv hc => ?_⟩
  obtain ⟨c, b1, b2⟩ := a3 pos cv hc
  exact ⟨c, b1, k _ _ (hand_is hh b2 fun _ z => nomatch z) b2⟩
theorem ok_law (T : Txt K mg) (TB : TabB base mg (tC' K) (tP K)) : ∃ fd, FunD K "law" "law" (defArgs s_law) (defBody s_law) (defScope s_law) [] [] (He.ga K "law") fd ∧ FnG P w K mg base 11 (He.ga K "law") fd ["_law_script"] (sp_law K) := by
  obtain ⟨fd, F⟩ := T.d_law
  refine ⟨fd, F, fnGn_of F sc_law (fun vs H Q E h => ?_) fun cdv A outer s H vs Q E hgd hr h => ?_⟩
  · obtain ⟨a, ns, rfl, hS, hl, hTT, hq⟩ := h
    rfl
  · have hu := hu_of hr
    have hu64 := hr.units
    obtain ⟨a, ns, rfl, hS, hl, hTT, hq⟩ := h
    refine ⟨_, (pss_cons (ps_asg (C8.pe_c (ok_law_lists T) hr (by decide) rfl (pa_cons (pv 0) pa_nil)) (pg_tup (by rfl) (pgs_cons (pg_name (i := 5) sc_law.nd rfl (by first | exact Or.inl rfl | exact Or.inr rfl)) (pgs_cons (pg_name (i := 6) sc_law.nd rfl (by first | exact Or.inl rfl | exact Or.inr rfl)) pgs_nil))))
    (pss_cons (ps_set (i := 1) sc_law.nd rfl (by first | exact Or.inl rfl | exact Or.inr rfl) (pe_lst pa_nil))
    (pss_cons (ps_for PassesOwn.never rfl (pi_list (pv 6)) (pg_name (i := 2) sc_law.nd rfl (by first | exact Or.inl rfl | exact Or.inr rfl))
    (pss_one (ps_expr (pe_bm PySem.F.plainAttrs_list PySem.F.slot_list_extend PySem.F.type_list_extend mt_extend (pv 1) (pa_cons (pv 2) pa_nil)))))
    (pss_cons (ps_set (i := 3) sc_law.nd rfl (by first | exact Or.inl rfl | exact Or.inr rfl) (C8.pe_c (ok_law_due T) hr (by decide) rfl (pa_cons (pv 1) pa_nil)))
    (pss_cons (ps_asg (C8.pe_c (ok_law_ways T) hr (by decide) rfl (pa_cons (pv 5) (pa_cons (pv 6) pa_nil))) (pg_tup (by rfl) (pgs_cons (pg_name (i := 7) sc_law.nd rfl (by first | exact Or.inl rfl | exact Or.inr rfl)) (pgs_cons (pg_name (i := 8) sc_law.nd rfl (by first | exact Or.inl rfl | exact Or.inr rfl)) pgs_nil))))
    (pss_cons (ps_if (pt_not (pt_val (pe_cG (ok_law_one T TB) hgd hr (by decide) rfl (pa_cons (pv 8) (pa_cons (pv 3) pa_nil))))) (pss_one (ps_ret pe_bl)) pss_nil)
    (pss_cons (ps_for PassesOwn.never rfl (pi_zip (by rfl) T.f_zip (pa_cons (pv 7) (pa_cons (pv 6) pa_nil))) (pg_tup (by rfl) (pgs_cons (pg_name (i := 9) sc_law.nd rfl (by first | exact Or.inl rfl | exact Or.inr rfl)) (pgs_cons (pg_name (i := 2) sc_law.nd rfl (by first | exact Or.inl rfl | exact Or.inr rfl)) pgs_nil)))
    (pss_one (ps_if (pt_not (pt_val (C8.pe_c (ok_law_told_right T TB) hr (by decide) rfl (pa_cons (pv 9) (pa_cons (C8.pe_c (ok_law_due T) hr (by decide) rfl (pa_cons (pv 2) pa_nil)) pa_nil))))) (pss_one (ps_ret pe_bl)) pss_nil)))
    (pss_cons (ps_for PassesOwn.never rfl (pi_range1 (by rfl) T.f_range (pa_cons (pe_callB call_len (by rfl) T.f_len (by decide +kernel) (pa_cons (pv 6) pa_nil)) pa_nil)) (pg_name (i := 4) sc_law.nd rfl (by first | exact Or.inl rfl | exact Or.inr rfl))
    (pss_cons (ps_set (i := 10) sc_law.nd rfl (by first | exact Or.inl rfl | exact Or.inr rfl) (pe_lst pa_nil))
    (pss_cons (ps_for PassesOwn.never rfl (pi_list (pe_op op_cat (pe_slice sl_list (pv 6) po_none (po_some (pv 4))) (pe_slice sl_list (pv 6) (po_some (pe_op op_add (pv 4) pe_int)) po_none))) (pg_name (i := 2) sc_law.nd rfl (by first | exact Or.inl rfl | exact Or.inr rfl))
    (pss_one (ps_expr (pe_bm PySem.F.plainAttrs_list PySem.F.slot_list_extend PySem.F.type_list_extend mt_extend (pv 10) (pa_cons (pv 2) pa_nil)))))
    (pss_one (ps_if (pt_cmpR op_ne (pe_cmpR (op_eqI (ok_Listing_eq T TB) (hr.mono (by decide))) (C8.pe_mk (mk_Listing_1 T) hr (by decide) rfl (pa_cons (pe_callTy call_tuple_of (by rfl) T.f_tuple (by decide +kernel) (pa_cons (pv 10) pa_nil)) pa_nil)) (pe_ix ix_list (pv 8) pe_int (fun _ _ => rfl)) (nomark _)) (pe_cmpR (op_eqD hu64) (C8.pe_c (ok_law_key T) hr (by decide) rfl (pa_cons (C8.pe_c (ok_law_due T) hr (by decide) rfl (pa_cons (pv 10) pa_nil)) pa_nil)) (C8.pe_c (ok_law_key T) hr (by decide) rfl (pa_cons (pv 3) pa_nil)) (nomark _)) (nomark _)) (pss_one (ps_ret pe_bl)) pss_nil)))))
    (pss_one (ps_ret pe_bl)))))))))), ?_⟩
    refine ⟨_, rfl, a, ns, rfl, hS, by omega, fun r0 h la ls ess H1 e1 hh1 hla hp eok hr0 => ⟨r0, _, rfl, SqT.of hr0, rfl, _, _, rfl, _, _, rfl, rfl, ?_⟩⟩
    refine next_ok ?_
    dsimp only
    have t1 := hTT.ext e1
    refine ⟨by show 0 ≤ sizeLine; decide, fun ea hea => ?_⟩
    refine next_ok ?_
    dsimp only
    have lsl := prd_len hp
    have few := eok.few
    have fl := flat_len (c := 6) (l := ess) few
    have evl : ess.flatten.length ≤ 36 := by have := eok.hi; omega
    have evok : ∀ e ∈ ess.flatten, EntOk e := fun e he => by
      obtain ⟨es, a, b⟩ := List.mem_flatten.mp he
      exact eok.ok es a e b
    have uo : UOk (univ ess.flatten) := univ_ok evl evok
    have hsub : ∀ e ∈ ess.flatten, e ∈ univ ess.flatten := fun e he => univ_sub he
    have hsubE : ∀ es ∈ ess, ∀ e ∈ es, e ∈ univ ess.flatten := fun es hes e he => hsub e (List.mem_flatten.mpr ⟨es, hes, he⟩)
    generalize univ ess.flatten = U at uo hsub hsubE
    -- every
    refine seq_cut (fun σ H' => ∃ (s2 : Option V) (us : List V), σ = [some (.ref a), some (.ref ea), s2, none, none, some (.ref h), some (.ref la), none, none, none, none] ∧ Ext H1 H' ∧ H' ea = some (.lst us) ∧ Paired (EntAt K H') us ess.flatten) (fun N hN => ?_) (fun σ H' hP => ?_)
    · have f1 : Ext H1 (upd H1 ea (.lst [])) := Ext.upd hea
      have tea : upd H1 ea (.lst []) ea = some (.lst []) := upd_same
      generalize upd H1 ea (.lst []) = G1 at f1 tea
      refine ⟨_, rfl, la, rfl, ⟨ls, SqL.of (f1 _ _ hla)⟩, ?_⟩
      refine for_src (src_list (xs := ls)) (fun i σ H' => ∃ (s2 : Option V) (us : List V), σ = [some (.ref a), some (.ref ea), s2, none, none, some (.ref h), some (.ref la), none, none, none, none] ∧ Ext H1 H' ∧ H' ea = some (.lst us) ∧ Paired (EntAt K H') us (ess.take i).flatten)
        ⟨_, [], rfl, f1, tea, .nil⟩ (fun i σ H' _ ⟨_, _, _, a, _⟩ => SqL.of (a _ _ hla)) (fun i x σ H2 H3 hi hP hy => ?_) fun σ H' hP => ?_
      · obtain ⟨rfl, hx⟩ := hy
        obtain ⟨s2, us, rfl, e2, hu2, hup⟩ := hP
        obtain ⟨es, hes, b, ws, rfl, hb, hpw⟩ := prd_get hp hx
        have esl : es.length ≤ 6 := few es (List.mem_of_getElem? hes)
        have ul := prd_len hup
        have fl2 := flat_len (c := 6) (l := ess.take i) fun x hx => few x (List.mem_of_mem_take hx)
        rw [List.length_take] at fl2
        have := eok.hi
        refine ⟨_, rfl, .inl ⟨rfl, us, SqL.of hu2⟩, _, rfl, ea, b, us, ws, rfl, rfl, hu2, e2 _ _ hb, Nat.le_trans (show us.length + ws.length ≤ 100 by rw [prd_len hpw]; omega) (by decide), _, us ++ ws, rfl, Ext.mut e2 hea, upd_same, ?_⟩
        rw [List.take_add_one, hes, List.flatten_append, show (some es).toList.flatten = es by simp]
        exact prd_app (ent_imm (imm_lst hu2) hup) (ent_imm ((Imm.of e2).trans (imm_lst hu2)) hpw)
      · obtain ⟨s2, us, rfl, e2, hu2, hup⟩ := hP
        rw [lsl, List.take_length] at hup
        exact hN _ _ ⟨_, us, rfl, e2, hu2, hup⟩
    obtain ⟨s2, us, rfl, e2, hu2, hup⟩ := hP
    refine ⟨_, rfl, ea, us, ess.flatten, U, rfl, hu2, hup, uo, hsub, fun d H2 f2 hn2 hd2 => ?_⟩
    refine next_ok ?_
    dsimp only
    have e12 := e2.trans f2
    have hp2 : Paired (EsAt K H2) ls ess := prd_mono (fun _ _ q => EsAt.ext e12 q) hp
    have hla2 := e12 _ _ hla
    have hh2 := hh1.ext e12
    have t2 := t1.ext e12
    refine ⟨_, rfl, _, rfl, h, la, 5000, ls, ess, U, rfl, hh2, by omega, hla2, hp2, uo, hsub, eok.lo, eok.hi, few, fun r3 ga fa gs fs fes H3 k3 hh3 hgp0 hgp hfa hfp fesl mm hr3 => ⟨r3, _, rfl, SqT.of hr3, rfl, _, _, rfl, _, _, rfl, rfl, ?_⟩⟩
    refine next_ok ?_
    dsimp only
    have hlah : la ≠ h := by
      have l3 := eok.lo
      match ls, lsl, hp, hla2 with
      | [], l0, _, _ => rw [← l0] at l3; simp at l3
      | v :: vs, _, .cons q _, hl => exact hand_lst hh2 hl fun i z => by obtain ⟨_, _, e, _⟩ := q; rw [e] at z; cases z
    have hp3 : Paired (EsAt K H3) ls ess := prd_mono (fun _ _ q => EsAt.kp k3 hh2 q) hp2
    have hla3 := k3 _ _ hlah hla2
    have hd3 := hd2.kp k3 hh2
    have t3 : Tabs (TT K) H3 := tabs_kp t2 k3 hh2
    obtain ⟨tokD, ofD⟩ := tab_ok uo hsub
    have fsl := prd_len hfp
    refine ⟨_, rfl, _, rfl, fa, d, fs, fes, ess.flatten, _, U, rfl, hfa, hfp, by omega, mm, hd3, ofD, uo, tokD, t3, fun H4 e4 t4 => ⟨true, rfl, iteF ?_⟩⟩
    refine next_ok ?_
    dsimp only
    have p34 : ∀ {b : Addr} {vs : List V} {H' : Hp}, H3 b = some (.lst vs) → ExtN H3 H' → H' b = some (.lst vs) := fun q e => e _ _ q fun _ z => nomatch z
    refine seq_cut (fun σ H' => ∃ (s2 s9 : Option V), σ = [some (.ref a), some (.ref ea), s2, some (.ref d), none, some (.ref h), some (.ref la), some (.ref ga), some (.ref fa), s9, none] ∧ ExtN H3 H' ∧ Tabs (TT K) H') (fun N hN => ?_) (fun σ H' hP => ?_)
    · refine ⟨_, rfl, _, rfl, ga, la, gs, ls, rfl, SqL.of (p34 hgp0 e4), SqL.of (p34 hla3 e4), ?_⟩
      refine for_src (src_zipL (n := gs.length) rfl ((prd_len hgp).trans lsl.symm)) (fun i σ H' => (∃ (s2 s9 : Option V), σ = [some (.ref a), some (.ref ea), s2, some (.ref d), none, some (.ref h), some (.ref la), some (.ref ga), some (.ref fa), s9, none]) ∧ ExtN H3 H' ∧ Tabs (TT K) H') ⟨⟨_, _, rfl⟩, e4, t4⟩ (fun i σ H' _ q => ⟨SqL.of (p34 hgp0 q.2.1), SqL.of (p34 hla3 q.2.1)⟩) (fun i x σ G1 G2 hi hP hy => ?_) fun σ H' hP => ?_
      · obtain ⟨T6, x1, y1, rfl, hT6, rfl, hx1, hy1⟩ := hy
        obtain ⟨⟨s2', s9', rfl⟩, g1, u1⟩ := hP
        obtain ⟨es, hes, p, t, rfl, hL, tok, oft⟩ := prd_get hgp hx1
        obtain ⟨es', hes', b, ws, rfl, hb, hpw⟩ := prd_get hp3 hy1
        rw [hes] at hes'
        cases hes'
        have f6 : Ext G1 (upd G1 T6 (.tup [.ref p, .ref b])) := Ext.upd hT6
        have tt6 : upd G1 T6 (.tup [.ref p, .ref b]) T6 = some (.tup [.ref p, .ref b]) := upd_same
        generalize upd G1 T6 (.tup [.ref p, .ref b]) = G3 at f6 tt6
        have g3 := g1.trans (ExtN.of f6)
        have u3 := u1.ext f6
        have sub := hsubE es (List.mem_of_getElem? hes)
        obtain ⟨tokE, ofE⟩ := tab_ok uo sub
        refine ⟨T6, _, rfl, SqT.of tt6, rfl, _, _, rfl, _, _, rfl, rfl, ?_⟩
        refine ⟨_, rfl, _, rfl, b, ws, es, U, rfl, p34 hb g3, ent_imm (ExtN.imm g3) hpw, uo, sub, fun d2 H5 e5 hn5 hd5 => ?_⟩
        exact ⟨p, d2, t, tabOf es, U, rfl, (hL.extN g3).ext e5, hd5, uo, tok, tokE, oft.same ofE tok tokE, u3.ext e5, fun H6 e6 t6 => ⟨true, rfl, iteF (next_ok ⟨⟨_, _, rfl⟩, (g3.trans (ExtN.of e5)).trans e6, t6⟩)⟩⟩
      · obtain ⟨⟨s2', s9', rfl⟩, g1, u1⟩ := hP
        exact hN _ _ ⟨_, _, rfl, g1, u1⟩
    obtain ⟨s2', s9, rfl, e5, t5⟩ := hP
    clear e4 t4
    obtain ⟨v0, hv0⟩ : ∃ v, fs[0]? = some v := ⟨_, List.getElem?_eq_getElem (by omega)⟩
    obtain ⟨es0, hes0, p0, t0, rfl, hL0, tok0, of0⟩ := prd_get hfp hv0
    have of0 := of0.mem (mm es0 (List.mem_of_getElem? hes0))
    have s0 : Same t0 (tabOf ess.flatten) := of0.same ofD tok0 tokD
    obtain ⟨dx0, _, _, _, hins0, _⟩ := id hL0
    refine seq_cut (fun σ H' => True) (fun N hN => ?_) (fun σ H' hP => hq _)
    refine ⟨_, rfl, _, ls.length, rfl, .inl ⟨_, SqL.of (p34 hla3 e5), rfl⟩, (ls.length : Int), rfl, by have := eok.hi; omega, by have := eok.hi; omega, ?_⟩
    refine for_src src_range (fun i σ H' => (∃ (s2 s4 s10 : Option V), σ = [some (.ref a), some (.ref ea), s2, some (.ref d), s4, some (.ref h), some (.ref la), some (.ref ga), some (.ref fa), s9, s10]) ∧ ExtN H3 H' ∧ Tabs (TT K) H') ⟨⟨_, _, _, rfl⟩, e5, t5⟩ (fun _ _ _ _ _ => True.intro) (fun i x σ X0 X9 hi hP hy => ?_) fun σ H' hP => hN _ _ True.intro
    obtain ⟨rfl, rfl⟩ := hy
    obtain ⟨⟨s2, s4, s10, rfl⟩, eX, tX⟩ := hP
    have hi : i < ls.length := by omega
    refine ⟨by show 0 ≤ sizeLine; decide, fun lg hlg => ?_⟩
    refine next_ok ?_
    dsimp only
    have hlaX := p34 hla3 eX
    have hpX : Paired (EsAt K X9) ls ess := prd_mono (fun _ _ q => EsAt.extN eX q) hp3
    have hp9 : Paired (EsAt K X9) (ls.take i ++ ls.drop (i + 1)) (ess.take i ++ ess.drop (i + 1)) := prd_app (prd_take hpX).1 (prd_take hpX).2
    have sub9 : ∀ es ∈ ess.take i ++ ess.drop (i + 1), es ∈ ess := fun es q => (List.mem_append.mp q).elim List.mem_of_mem_take List.mem_of_mem_drop
    have len9 : (ess.take i ++ ess.drop (i + 1)).length ≤ 6 := by
      have := eok.hi
      rw [List.length_append, List.length_take, List.length_drop]
      omega
    refine seq_cut (fun σ H' => ∃ (s2 : Option V) (us : List V), σ = [some (.ref a), some (.ref ea), s2, some (.ref d), some (.int (0 + (i : Int))), some (.ref h), some (.ref la), some (.ref ga), some (.ref fa), s9, some (.ref lg)] ∧ Ext X9 H' ∧ H' lg = some (.lst us) ∧ Paired (EntAt K H') us (ess.take i ++ ess.drop (i + 1)).flatten) (fun N hN => ?_) (fun σ H' hP => ?_)
    · have f1 : Ext X9 (upd X9 lg (.lst [])) := Ext.upd hlg
      have tlg : upd X9 lg (.lst []) lg = some (.lst []) := upd_same
      generalize upd X9 lg (.lst []) = Y0 at f1 tlg
      refine ⟨_, rfl, _, rfl, _, rfl, la, ls, rfl, SqL.of (f1 _ _ hlaX), fun r1 hr1 => ?_⟩
      rw [show cutV ls none (some (0 + (i : Int))) = ls.take i from by rw [Int.zero_add]; exact cut_to ls i]
      have f2 : Ext Y0 (upd Y0 r1 (.lst (ls.take i))) := Ext.upd hr1
      have tr1 : upd Y0 r1 (.lst (ls.take i)) r1 = some (.lst (ls.take i)) := upd_same
      generalize upd Y0 r1 (.lst (ls.take i)) = Y1 at f2 tr1
      refine ⟨_, rfl, _, rfl, _, _, rfl, rfl, _, rfl, la, ls, rfl, SqL.of (f2 _ _ (f1 _ _ hlaX)), fun r2 hr2 => ?_⟩
      rw [show cutV ls (some (0 + (i : Int) + 1)) none = ls.drop (i + 1) from by rw [show (0 + (i : Int) + 1) = ((i + 1 : Nat) : Int) by omega]; exact cut_from ls (i + 1)]
      have f3 : Ext Y1 (upd Y1 r2 (.lst (ls.drop (i + 1)))) := Ext.upd hr2
      have tr2 : upd Y1 r2 (.lst (ls.drop (i + 1))) r2 = some (.lst (ls.drop (i + 1))) := upd_same
      generalize upd Y1 r2 (.lst (ls.drop (i + 1))) = Y2 at f3 tr2
      refine ⟨r1, r2, _, _, rfl, rfl, f3 _ _ tr1, tr2, Nat.le_trans (show (ls.take i).length + (ls.drop (i + 1)).length ≤ 100 by rw [← List.length_append, prd_len hp9]; omega) (by decide), fun r3 hr3 => ⟨r3, rfl, ⟨_, SqL.of upd_same⟩, ?_⟩⟩
      generalize ls.take i ++ ls.drop (i + 1) = ls9 at hp9
      generalize ess.take i ++ ess.drop (i + 1) = ess9 at hp9 sub9 len9 hN
      have n3 : r3 ≠ lg := (ne_of_none (f3 _ _ (f2 _ _ tlg)) hr3).symm
      have f4 : Ext Y2 (upd Y2 r3 (.lst ls9)) := Ext.upd hr3
      have tr3 : upd Y2 r3 (.lst ls9) r3 = some (.lst ls9) := upd_same
      generalize upd Y2 r3 (.lst ls9) = Y3 at f4 tr3
      have l9 := prd_len hp9
      refine for_src (src_list (xs := ls9)) (fun j σ H' => ∃ (s2 : Option V) (us : List V), σ = [some (.ref a), some (.ref ea), s2, some (.ref d), some (.int (0 + (i : Int))), some (.ref h), some (.ref la), some (.ref ga), some (.ref fa), s9, some (.ref lg)] ∧ Ext X9 H' ∧ H' r3 = some (.lst ls9) ∧ H' lg = some (.lst us) ∧ Paired (EntAt K H') us (ess9.take j).flatten)
        ⟨_, [], rfl, ((f1.trans f2).trans f3).trans f4, tr3, f4 _ _ (f3 _ _ (f2 _ _ tlg)), .nil⟩ (fun j σ H' _ ⟨_, _, _, _, a, _⟩ => SqL.of a) (fun j x σ Z1 Z2 hj hP hy => ?_) fun σ H' hP => ?_
      · obtain ⟨rfl, hx⟩ := hy
        obtain ⟨s2, us, rfl, eZ, h3Z, hu2, hup⟩ := hP
        obtain ⟨es, hes, b, ws, rfl, hb, hpw⟩ := prd_get hp9 hx
        have esl : es.length ≤ 6 := few es (sub9 es (List.mem_of_getElem? hes))
        have ul := prd_len hup
        have fl2 := flat_len (c := 6) (l := ess9.take j) fun x hx => few x (sub9 x (List.mem_of_mem_take hx))
        rw [List.length_take] at fl2
        refine ⟨_, rfl, .inl ⟨rfl, us, SqL.of hu2⟩, _, rfl, lg, b, us, ws, rfl, rfl, hu2, eZ _ _ hb, Nat.le_trans (show us.length + ws.length ≤ 100 by rw [prd_len hpw]; omega) (by decide), _, us ++ ws, rfl, Ext.mut eZ hlg, by rw [upd_ne n3]; exact h3Z, upd_same, ?_⟩
        rw [List.take_add_one, hes, List.flatten_append, show (some es).toList.flatten = es by simp]
        exact prd_app (ent_imm (imm_lst hu2) hup) (ent_imm ((Imm.of eZ).trans (imm_lst hu2)) hpw)
      · obtain ⟨s2, us, rfl, eZ, h3Z, hu2, hup⟩ := hP
        rw [l9, List.take_length] at hup
        exact hN _ _ ⟨_, us, rfl, eZ, hu2, hup⟩
    obtain ⟨s2, us, rfl, eZ, hu2, hup⟩ := hP
    have subL : ∀ e ∈ (ess.take i ++ ess.drop (i + 1)).flatten, e ∈ U := fun e he => by
      obtain ⟨es, q1, q2⟩ := List.mem_flatten.mp he
      exact hsubE es (sub9 es q1) e q2
    generalize (ess.take i ++ ess.drop (i + 1)).flatten = le at hup subL
    obtain ⟨tokL, ofL⟩ := tab_ok uo subL
    refine ⟨_, rfl, lg, us, rfl, .inl ⟨SqL.of hu2, fun tu htu => ?_⟩⟩
    intro x dx hx hdx hne
    have fB : Ext H' (upd H' tu (.tup us)) := Ext.upd htu
    have tB : upd H' tu (.tup us) tu = some (.tup us) := upd_same
    generalize upd H' tu (.tup us) = B at hx hdx fB tB ⊢
    have e4 : Ext B (upd (upd B dx (.own x)) x (.ins (He.ga K "Listing") dx [])) := (Ext.upd hdx).trans (Ext.upd (by rw [upd_ne hne.symm]; exact hx))
    refine ⟨B, x, dx, .ref tu, le, U, rfl, e4, hx, upd_same, .inr ⟨tu, us, rfl, .inr (SqT.of tB), ent_imm (Imm.of fB) hup⟩, uo, subL, fun Z3 d3 T3 eB3 lb ab => ⟨rfl, ?_⟩⟩
    have E3 : ExtN H3 Z3 := eX.trans (ExtN.of ((eZ.trans fB).trans eB3))
    have tz3 : Tabs (TT K) Z3 := ((tX.ext eZ).ext fB).ext eB3
    have hLx := lb.lisU
    rw [ab] at hLx
    obtain ⟨dxx, hinx⟩ := lb.ins
    have hu3 := (fB.trans eB3) _ _ hu2
    have hup3 := ent_imm (Imm.of (fB.trans eB3)) hup
    refine ⟨_, rfl, fa, fs, 0, _, rfl, rfl, SqL.of (p34 hfa E3), atI_nat hv0, ?_⟩
    refine ⟨x, p0, dxx, dx0, _, _, rfl, rfl, hinx, E3 _ _ hins0 (fun _ z => nomatch z), x, p0, tabOf le, t0, U, rfl, hLx, hL0.extN E3, uo, tokL, tok0, tz3, fun Z4 e6 t6 => ⟨_, rfl, ?_⟩⟩
    have E4 := E3.trans e6
    refine ⟨_, rfl, lg, us, le, U, rfl, e6 _ _ hu3 (fun _ z => nomatch z), ent_imm (ExtN.imm e6) hup3, uo, subL, fun d2 Z5 e7 hn7 hd7 => ?_⟩
    refine ⟨d2, tabOf le, U, rfl, hd7, uo, tokL, fun v1 Z6 e8 dp1 => ?_⟩
    have E6 := E4.trans (ExtN.of (e7.trans e8))
    refine ⟨_, rfl, d, tabOf ess.flatten, U, rfl, hd3.extN E6, uo, tokD, fun v2 Z7 e9 dp2 => ?_⟩
    refine ⟨lkD (tabOf le), lkD (tabOf ess.flatten), Dp.ext e9 _ _ dp1, dp2, shaped_lk tokL uo, shaped_lk tokD uo, ?_⟩
    rw [eqv_lk tokL tokD uo, (Same.refl (tabOf le)).eqL2 s0 tokL tokL tok0 tokD uo]
    refine ⟨rfl, _, rfl, if_ndecF rfl ?_⟩
    exact next_ok ⟨⟨_, _, _, rfl⟩, E6.trans (ExtN.of e9), ((t6.ext e7).ext e8).ext e9⟩
end
end TW
set_option Elab.async false
set_option linter.all false
set_option maxRecDepth 100000
set_option maxHeartbeats 0
namespace TW
open PySem PySem.W PySem.Calls PyProof.Rows
/-! ### the head -/
abbrev hR : OpenRow := OpenLaw.row PySem.Challenge.rw_takesworks_k81_whole_lists_are_one
abbrev hV : Program := view hR.prog [74]
def hN0 : List PySem.Str := ["__name__", "NotSuch", "NoDay", "NoLength", "NoEntry", "LETTERS", "MOST_LETTERS", "is_whole", "is_from", "is_word", "MOST_YEAR", "MONTHS", "is_between", "is_long_year", "days_in", "are_parts", "Day", "parts_of", "MOST_SECONDS", "MINUTE", "Length", "SIGNS", "MOST_SIGNS_names", "is_called", "is_name", "FIELDS", "CODE_SIGNS", "MOST_SIGNS_entries", "MOST_PLAYERS", "is_code"]
def hN1 : List PySem.Str := ["are_players", "is_key", "is_entry", "field_of", "key_of", "show_name", "show_key", "show_entry", "PARTLESS", "rank_of", "told_alone", "Listing", "_law_hand", "_law_take", "_law_pick", "_law_signs", "_law_text", "_law_tongue", "_law_names", "_law_days", "_law_codes", "_law_pools", "_law_word", "_law_keys", "_law_entry", "_law_mark", "_law_due", "_law_fields", "_law_told_right", "_law_marked"]
def hN2 : List PySem.Str := ["_law_sums_right", "_law_lists", "_law_grouped", "_law_ways", "_law_one", "_law_key"]
def hNames : List PySem.Str := hN0 ++ hN1 ++ hN2
abbrev hHook : Hook := He.hookX 4 fa fn [] [tDef] exB
def hOb (s : SharedT) : He.AlX := He.obsX 4 fa fn [] [tDef] exB (HandSHeadRun.getT s)
theorem hOb_eq (s : SharedT) : hOb s = hHook.obs s.abs := He.obsX_eq (HandSHeadRun.getT_eq s)
theorem head_run (w : World) : HandSHeadRun.RunEq hR hV hHook hOb 6000 hNames w := by
  intro os
  kernel_rfl
end TW
set_option Elab.async false
set_option linter.all false
set_option maxRecDepth 100000
set_option maxHeartbeats 4000000
namespace TW
open PySem PySem.Spec PyProof.Rows L2
/-! ### the end: the law's def is run by a caller at which no repr is under way -/
def tab0 : Obj := { cls := .none, data := .fields #[] }
def lst0 (vs : List Value) : Obj := { cls := .type "list", data := .seq vs.toArray }
/-- what is tracked at first: the lambda's table; the script, if K does not hold it -/
def hp0 (K : PySem.W.Frag) (t a : Addr) (vs : List Value) (zs : List V) : Hp := fun b =>
  if b = t then some (.tbl #[]) else if b = a ∧ K.lookup a = none then some (.frz (lst0 vs) (.lst zs)) else none
section
variable {P : Program} {w : World} {K : PySem.W.Frag} {st : Shared} {a t : Addr} {vs : List Value} {zs : List V}
theorem hp0_t : hp0 K t a vs zs t = some (.tbl #[]) := if_pos rfl
theorem hp0_cases {b : Addr} {u : HO} (h : hp0 K t a vs zs b = some u) : (b = t ∧ u = .tbl #[]) ∨ (b = a ∧ K.lookup a = none ∧ u = .frz (lst0 vs) (.lst zs)) := by
  unfold hp0 at h
  by_cases h1 : b = t
  · rw [if_pos h1] at h; exact .inl ⟨h1, (Option.some.inj h).symm⟩
  · rw [if_neg h1] at h
    by_cases h2 : b = a ∧ K.lookup a = none
    · rw [if_pos h2] at h; exact .inr ⟨h2.1, h2.2, (Option.some.inj h).symm⟩
    · rw [if_neg h2] at h; cases h
/-- what the law's call finds -/
structure At0 (K : PySem.W.Frag) (st : Shared) (t a : Addr) (vs : List Value) : Prop where
  kin : K.In st.heap
  tab : st.heap.get? t = some tab0
  out : K.lookup t = none
  scr : st.heap.get? a = some (lst0 vs)
theorem At0.ne (A : At0 K st t a vs) : a ≠ t := fun e => by
  have h := A.scr
  rw [e, A.tab] at h
  have h : Data.fields #[] = Data.seq vs.toArray _ := congrArg Obj.data (Option.some.inj h)
  cases h
theorem At0.hid (A : At0 K st t a vs) {b : Addr} {o : Obj} (e : st.heap.get? b = some o) (h1 : o ≠ tab0) (h2 : o ≠ lst0 vs) : (hidT st.heap (hp0 K t a vs zs)).get? b = some o := by
  refine hidT_get e ?_
  cases q : hp0 K t a vs zs b with
  | none => rfl
  | some u =>
    rcases hp0_cases q with ⟨rfl, _⟩ | ⟨rfl, _, _⟩
    · rw [A.tab] at e; exact absurd (Option.some.inj e).symm h1
    · rw [A.scr] at e; exact absurd (Option.some.inj e).symm h2
theorem At0.kin' (A : At0 K st t a vs) : K.In (hidT st.heap (hp0 K t a vs zs)) := fun b o e => by
  refine hidT_get (A.kin b o e) ?_
  cases q : hp0 K t a vs zs b with
  | none => rfl
  | some u =>
    rcases hp0_cases q with ⟨rfl, _⟩ | ⟨rfl, n, _⟩
    · rw [A.out] at e; cases e
    · rw [n] at e; cases e
theorem At0.ns (A : At0 K st t a vs) {b : Addr} {m : Str → Option Value} (h : st.heap.Ns b m) : (hidT st.heap (hp0 K t a vs zs)).Ns b m := by
  obtain ⟨o, es, ep, e, d, r⟩ := h
  refine ⟨o, es, ep, A.hid e (fun z => ?_) (fun z => ?_), d, r⟩ <;> (rw [z] at d; cases d)
theorem At0.seq (A : At0 K st t a vs) (r : Vals zs vs) (l : zs.length ≤ sizeLine) : SqL K (hp0 K t a vs zs) a zs := by
  cases q : K.lookup a with
  | none => exact .inl (.inr ⟨lst0 vs, by unfold hp0; rw [if_neg A.ne, if_pos ⟨rfl, q⟩]⟩)
  | some o =>
    have e := A.kin a o q
    rw [A.scr] at e
    obtain rfl := Option.some.inj e
    exact .inr ⟨_, vs.toArray, _, q, rfl, rfl, rfl, by rw [List.size_toArray, ← r.length]; exact l, by simpa using r⟩
theorem At0.hok (A : At0 K st t a vs) (r : Vals zs vs) (l : zs.length ≤ sizeLine) : HOk P w (hp0 K t a vs zs) st.heap := fun b u h => by
  rcases hp0_cases h with ⟨rfl, rfl⟩ | ⟨rfl, _, rfl⟩
  · exact A.tab
  · exact ⟨A.scr, l, vs, _, r, A.scr⟩
theorem At0.tb (A : At0 K st t a vs) {mg : Str → Option Value} {c : Addr} (C : PySem.W.CodeHd st.heap c t) (g : st.heap.Ns mainGlobals mg)
    (bm : ∃ (m : Addr) (o : Obj), mg "__builtins__" = some (.ref m) ∧ m ≠ builtinsNs ∧ st.heap.get? m = some o ∧ o.cls = .type "module" ∧ o.dict = some builtinsNs ∧ o.data = .plain) : LamX.TabB (hidT st.heap (hp0 K t a vs zs)) mg c t := by
  obtain ⟨og, es, ep, eg, dg, _⟩ := g
  refine ⟨?_, ?_, fun z => ?_⟩
  · obtain ⟨o, us, f, tf, fl, tg, inF, tx, tt, e, k1, k2, k3⟩ := C
    refine ⟨o, us, f, tf, fl, tg, inF, tx, tt, A.hid e (fun z => ?_) (fun z => ?_), k1, k2, k3⟩
    · rw [z] at k1; cases k1
    · rw [z] at k2; cases k2
  · obtain ⟨m, o, b1, b2, e, k1, k2, k3⟩ := bm
    refine ⟨m, o, b1, b2, fun z => ?_, fun z => ?_, A.hid e (fun z => ?_) (fun z => ?_), k1, k2, k3⟩
    · rw [z, eg] at e
      rw [← Option.some.inj e, dg] at k3
      cases k3
    · rw [z, A.tab] at e
      rw [← Option.some.inj e] at k3
      cases k3
    · rw [z] at k3; cases k3
    · rw [z] at k3; cases k3
  · rw [z, A.tab] at eg
    rw [← Option.some.inj eg] at dg
    cases dg
/-- nothing old has changed but the table, which grew -/
theorem At0.old (A : At0 K st t a vs) {c : Addr} (C : PySem.W.CodeHd st.heap c t) {s' : Shared} {H' : Hp} (un : Un (frs []) [] (hp0 K t a vs zs) H' st.heap s'.heap) (ok : HOk P w H' s'.heap) : OldK st.heap s'.heap := by
  obtain ⟨more, hm⟩ := un.tbls t #[] hp0_t
  have ht : s'.heap.get? t = some { cls := .none, data := .fields (#[] ++ more) } := ok t _ hm
  have rest : ∀ b o, b ≠ t → st.heap.get? b = some o → s'.heap.get? b = some o := fun b o n e => by
    cases q : hp0 K t a vs zs b with
    | none => exact un.keep b o e q (fun z => by cases z) (fun z => by cases z)
    | some u =>
      rcases hp0_cases q with ⟨z, _⟩ | ⟨rfl, _, rfl⟩
      · exact absurd z n
      · rw [A.scr] at e
        rw [← Option.some.inj e]
        exact (ok b _ (un.frzs b _ _ q)).1
  refine ⟨fun b o e => ?_, fun b o e => ?_⟩
  · by_cases n : b = t
    · subst n
      rw [A.tab] at e
      obtain rfl := Option.some.inj e
      exact .inr (.inl ⟨(C.tab A.tab).isCodeTable, rfl, #[], more, rfl, ht⟩)
    · exact .inl (rest b o n e)
  · by_cases n : b = t
    · exact ⟨_, by rw [n]; exact ht⟩
    · exact ⟨o, rest b o n e⟩
end
end TW
set_option Elab.async false
set_option linter.all false
set_option maxRecDepth 100000
set_option maxHeartbeats 0
namespace TW
open PySem PySem.Spec PyProof.Rows L2
theorem txt_of {w : World} {K : PySem.W.Frag} {h : Heap} {mg : Str → Option Value} (X : K.In h) (G : h.Ns mainGlobals mg) (c : He.SaysX fa fn [] [tDef] exB w h K) : Txt K mg :=
  ⟨fun i f q => c.t.d.fact i (f := f) q, fun i d q => c.t.d.def_ i (d := d) q, fun i x q => He.glo_ok X G (c.t.d.fact i (f := .glo x) q), fun i x q => He.free_ok X G (c.t.d.fact i (f := .free x) q),
    fun i x v q => He.int_ok X G (c.t.d.fact i (f := .int x v) q), fun i x v q => He.str_ok X G (c.t.d.fact i (f := .str x v) q), c.more⟩
abbrev hL : PySem.W.OpenLaw := PySem.Challenge.rw_takesworks_k81_whole_lists_are_one
theorem law_walk : PySem.W.WalkO hV hNames (PySem.W.XL hV []) hHook.says hR.toRowW (HandSHeadRun.topDef hR.prog 74) [] (fun f vs => PySem.call f vs) := by
  refine Att.attach_callB (l := hL) (n := 63) rfl (by kernel_rfl) fun w s₀ s₁ mg mb f o pm cd doc a vs ns G Y ho hd hcd hmg0 hobj hints hlen hbits hg => ?_
  obtain ⟨K, X, c⟩ := Y
  have hmg : mg ("law" : PySem.Str) = some (.ref f) := by
    have e : (HandSHeadRun.topDef hR.prog 74).name = ("law" : PySem.Str) := by kernel_rfl
    rw [← e]
    exact hmg0
  have T : Txt K mg := txt_of X G.T.g c
  have ef := T.g_law
  rw [hmg] at ef
  obtain rfl : f = He.ga K "law" := by injection ef with ef; injection ef
  have A : At0 K s₁ (tP K) a vs := ⟨X, c.empty tDef (List.mem_singleton.mpr rfl), c.out tDef (List.mem_singleton.mpr rfl), hobj⟩
  have C : PySem.W.CodeHd s₁.heap (tC' K) (tP K) := PySem.W.codeHd_of_K X (c.hd tDef (List.mem_singleton.mpr rfl))
  have rv : Vals (ns.map V.int) vs := vals_ints hints
  have len : (ns.map V.int).length ≤ sizeLine := by rw [List.length_map]; exact Nat.le_trans hlen (by decide)
  have TB := A.tb (zs := ns.map V.int) C G.T.g G.T.bmain
  have lim : (hidT s₁.heap (hp0 K (tP K) a vs (ns.map V.int))).NoLimit := let ⟨m, l1, l2⟩ := G.T.nolimit; ⟨m, A.ns l1, l2⟩
  obtain ⟨fd, F, FG⟩ := ok_law (P := hL.prog) (w := w) T TB
  have hb := FunD.bindsA (ps := ["_law_script"]) F (fun _ _ _ _ _ _ us hl => match us, hl with | [_], _ => rfl) s₁ [.ref a] rfl
  have e0 : Env0 hL.prog w K mg (hidT s₁.heap (hp0 K (tP K) a vs (ns.map V.int))) callerA [] s₁ (hp0 K (tP K) a vs (ns.map V.int)) :=
    ⟨rfl, ⟨A.kin', A.ns G.T.g, ⟨mb, A.ns G.T.b, G.T.builtins⟩, lim⟩, fun _ _ e => of_hidT e, Nat.le_of_eq (hidT_size _ _), True.intro, fun _ z => (by cases z), A.hok rv len, .of_eq hg⟩
  have tabs : LamX.Tabs (TT K) (hp0 K (tP K) a vs (ns.map V.int)) := fun p hp => by
    rw [List.mem_singleton.mp hp]
    exact LamX.TabS.nil hp0_t
  refine codeAny_mono (FG.run callerA [] s₁ _ ⟨[.ref a], []⟩ [.ref a] [.ref a] (fun v _ => v = .bl true) C8.E0 rfl ⟨rfl, by decide +kernel, by decide +kernel⟩ e0 hb (.cons rfl .nil) ⟨a, ns, rfl, A.seq rv len, hlen, tabs, fun _ => rfl⟩) ?_
  rintro (e | fl) s' q
  · exact False.elim q
  cases fl with
  | ret u =>
    obtain ⟨v, H', os, bare, un, ok, r, ev⟩ := q
    have ev : v = .bl true := ev
    subst ev
    obtain rfl : u = Value.bool true := r
    exact ⟨rfl, A.old C un ok, os, bare⟩
  | next => exact False.elim q
  | brk => exact False.elim q
  | cont => exact False.elim q
end TW
open PySem PySem.W PySem.Calls PyProof.Rows
theorem PySem.Challenge.cw_takesworks_k81_whole_lists_are_one_holds : PySem.Challenge.rw_takesworks_k81_whole_lists_are_one.Holds := by
  w_on; o_law
  refine HandSHeadRun.head_any (r := OpenLaw.row PySem.Challenge.rw_takesworks_k81_whole_lists_are_one) (q := TW.hV) (H := TW.hHook) (ob := TW.hOb) (M := 6000) (loose := TW.hNames) (d := HandSHeadRun.topDef TW.hR.prog 74) (kwd := []) TW.hOb_eq
    (by kernel_rfl) (fun s => by kernel_rfl) TW.head_run (by kernel_rfl) (by kernel_rfl) (by kernel_rfl) (by rfl) (by first | assumption | decide +kernel) (by decide +kernel) ⟨rfl, rfl, rfl, rfl, rfl, by decide +kernel⟩ ?hw ?hc
  case hw => w_witness2
  case hc => exact TW.law_walk
