import PyProof.Rows.All
import Wide.All
import OpenK.AllK
import Wide.FinOn
import KE.KStateDown
import HandS.ForMost
import HandS.TupAny
import HandS.SortRule
import KE.KDictPairs
import HandS.Defaults
import HandS.DictComp
import HandS.IsInst
import HandS.Conv
import HandS.CallLocal
import HandS.Walk
import HandS.SortInts
import HandS.Flow
import HandS.NoneIn
import PyProof.P3Eq
import HandS.More
import HandS.Evl
import HandS.Head0
import HandS.Head1
import HandS.Head2
import HandS.HeadEnd
import HandS.HeadHook1
import HandS.HeadHook2
import HandS.HeadHook3
import HandS.HeadHook4
import PySem.Challenge.RW_backrun_k96_whole_any_steps_on_circuits
set_option Elab.async false
set_option linter.all false
set_option maxRecDepth 100000
set_option maxHeartbeats 4000000
/-! Rules of our own: tuples that are known to bear no dict (told as known objects), dict(a tuple of pairs), sorted(a tuple of pairs). -/
namespace Bk
open PySem PySem.Spec PyProof.Rows L2
/-- a tuple that was laid plainly -/
def PT (H : Hp) (a : Addr) (vs : List V) : Prop := ∃ o : Obj, o.dict = none ∧ H a = some (.frz o (.tup vs))
theorem PT.sq {K : PySem.W.Frag} {H : Hp} {a : Addr} {vs : List V} (h : PT H a vs) : SqT K H a vs := by
  obtain ⟨o, _, e⟩ := h
  exact .inl (.inr ⟨o, e⟩)
/-- what follows a new tuple -/
def NewT (xs : List V) (H : Hp) (Q : VK) : Prop := ∀ (p : Addr) (o : Obj), H p = none → o.dict = none → Q (.ref p) (upd H p (.frz o (.tup xs)))
section
variable {X : Cx} {pins : List (Addr × Obj)} {σ : L2.St} {H : Hp} {s : Shared}
theorem laidT {h' : Heap} {its : List Value} {xs : List V} (I : Inv X pins σ H { s with heap := h' }) (r : Vals xs its) (z : xs.length ≤ sizeLine) {Q : VK} (q : NewT xs H Q) :
    EP X pins σ Q (.ref h'.objs.size) { s with heap := h'.push { cls := .type "tuple", data := .seq its.toArray } } := by
  have old : H h'.objs.size = none := I.hok.fresh (Nat.le_refl _)
  have at_ : (h'.push { cls := .type "tuple", data := .seq its.toArray }).get? h'.objs.size = some { cls := .type "tuple", data := .seq its.toArray } := Heap.get?_push_size _ rfl
  exact ⟨.ref h'.objs.size, upd H h'.objs.size (.frz { cls := .type "tuple", data := .seq its.toArray } (.tup xs)),
    I.laid (t' := s.toks) (fun _ _ e => Heap.get?_push_of_some _ e) (Nat.le_refl _) ⟨at_, z, its, r, ⟨_, at_, rfl, _, rfl⟩⟩, rfl, q _ _ old rfl⟩
end
section
variable {X : Cx}
/-- (a, b, ..) -/
def tTupP (t : TA) : TE := fun σ H Q => t σ H fun xs H1 => xs.length ≤ sizeLine ∧ NewT xs H1 Q
theorem pe_tupP {es : List Expr} {x1} {pos : Pos} {t : TA} (h : PA X es t) : PE X (.Tuple es x1 pos) (tTupP t) := by
  constructor
  intro pins s σ H Q I hq
  refine wpAny_Tuple_spliced (thn (h.run pos pins s σ H _ I hq) ?_)
  rintro us s1 ⟨xs, H1, I1, r, z, q⟩
  have z' : us.length ≤ sizeLine := by
    have := r.length
    omega
  exact ⟨z', laidT (s := s1) I1 r z q⟩
/-- tuple(a list), tuple(a tuple) -/
def rTupP (K : PySem.W.Frag) : List V → Hp → VK → Prop := fun xs H Q => ∃ p ys, xs = [.ref p] ∧ ((SqL K H p ys ∧ NewT ys H Q) ∨ (PT H p ys ∧ Q (.ref p) H))
theorem call_tupP : CallR X (.type "tuple") (rTupP X.K) := by
  intro pins s σ H xs us Q I r h
  obtain ⟨p, ys, rfl, h⟩ := h
  obtain ⟨u, rfl, rx⟩ := vals1 r
  cases rx
  rcases h with ⟨hq, q⟩ | ⟨hq, q⟩
  · obtain ⟨its, r2, pl, hz⟩ := I.list hq
    have hl : its.toArray.size ≤ sizeLine := by
      have := r2.length
      rw [List.size_toArray]
      omega
    refine call_tuple_list pl.isList (fun h' kp => ?_) hl
    exact laidT (s := s) (I.kept (t' := s.toks) kp) r2 hz q
  · obtain ⟨its, _, pl, _⟩ := I.tuple (hq.sq (K := X.K))
    exact call_tuple_same pl ⟨.ref p, H, I, rfl, q⟩
/-- t + u -/
def rCatP (K : PySem.W.Frag) : R2 := fun x y H Q => ∃ a b xs ys, x = .ref a ∧ y = .ref b ∧ PT H a xs ∧ PT H b ys ∧ xs.length + ys.length ≤ sizeLine ∧
  (xs = [] → Q (.ref b) H) ∧ (ys = [] → Q (.ref a) H) ∧ NewT (xs ++ ys) H Q
theorem op_catP : OpR X (binaryOp .Add) (rCatP X.K) := by
  intro pins s σ H x y v u Q I rx ry h
  obtain ⟨a, b, xs, ys, rfl, rfl, ha, hb, hz, q0, q1, q2⟩ := h
  cases rx
  cases ry
  obtain ⟨its, r1, p1, _⟩ := I.tuple (ha.sq (K := X.K))
  obtain ⟨its2, r2, p2, _⟩ := I.tuple (hb.sq (K := X.K))
  by_cases hx : its = []
  · subst hx
    have e : xs = [] := by cases r1; rfl
    exact cat_tup0 p1 p2 ⟨.ref b, H, I, rfl, q0 e⟩
  · have hs : its.length + its2.length ≤ sizeLine := by
      have := r1.length
      have := r2.length
      omega
    refine HT.cat_tup p1 p2 hx (fun z => ?_) (fun _ => ?_) hs
    · subst z
      have e : ys = [] := by cases r2; rfl
      exact ⟨.ref a, H, I, rfl, q1 e⟩
    · exact laidT (s := s) (h' := s.heap) I (r1.append r2) (by rw [List.length_append]; exact hz) q2
/-- t[lo:hi] -/
def rSlP (K : PySem.W.Frag) : V → Option Int → Option Int → Hp → VK → Prop := fun x lo hi H Q => ∃ a xs, x = .ref a ∧ PT H a xs ∧ (cutV xs lo hi = xs → Q (.ref a) H) ∧ NewT (cutV xs lo hi) H Q
theorem sl_tupP : SlR X (rSlP X.K) := by
  intro pins s σ H x v vl vu lo hi sl Q I rx hs pl pu h
  obtain ⟨a, xs, rfl, hx, q1, q2⟩ := h
  cases rx
  obtain ⟨its, r, ht, hz⟩ := I.tuple (hx.sq (K := X.K))
  have hlen : its.toArray.size = xs.length := by rw [List.size_toArray]; exact r.length.symm
  refine ⟨"tuple", _, PyProof.Rows.slot_tuple_getitem.lookup, ht.typeIs, ?_⟩
  by_cases hw : HT.sIx its.toArray.size 0 lo = 0 ∧ HT.sIx its.toArray.size its.toArray.size hi = its.toArray.size
  · refine getItem_tuple_whole ht hs pl pu hw ⟨.ref a, H, I, rfl, q1 ?_⟩
    rw [hlen] at hw
    unfold cutV
    rw [hw.1, hw.2, List.drop_zero, Nat.sub_zero, List.take_length]
  · refine HT.getItem_tuple_cut ht hs pl pu hw ?_ (by rw [hlen]; exact hz)
    have r2 : Vals (cutV xs lo hi) ((its.drop (HT.sIx its.toArray.size 0 lo)).take (HT.sIx its.toArray.size its.toArray.size hi - HT.sIx its.toArray.size 0 lo)) := by
      unfold cutV
      rw [hlen]
      exact (r.drop _).take _
    exact laidT (s := s) (h' := s.heap) I r2 (Nat.le_trans (cutV_length xs lo hi) hz) q2
/-- dict(a tuple of pairs) -/
def rDicT (K : PySem.W.Frag) : List V → Hp → VK → Prop := fun xs H Q => ∃ (a : Addr) (ps : List Addr) (kvs : List (Key × V)), xs = [.ref a] ∧ PT H a (ps.map V.ref) ∧ Paired (fun p kv => SqT K H p [kV kv.1, kv.2]) ps kvs ∧
  ∀ p, H p = none → Q (.ref p) (upd H p (.dK (mergeK [] kvs)))
theorem call_dicT (hcalm : X.calm = true) : CallR X (.type "dict") (rDicT X.K) := by
  intro pins s σ H xs us Q I r h
  obtain ⟨a, ps, kvs, rfl, ⟨o, hd, ha⟩, hp, q⟩ := h
  obtain ⟨u, rfl, rx⟩ := vals1 r
  cases rx
  obtain ⟨ho, hz, its, rv, hT⟩ := (show ObjOk X.prog X.w H s.heap a (.frz o (.tup (ps.map V.ref))) from I.hok a _ ha)
  have ei := refs_at rv
  subst ei
  obtain ⟨prs, rel, hl, hpr⟩ := pairs_of I hp
  obtain ⟨o', ho', hc, n, hdat⟩ := hT
  rw [ho] at ho'
  cases ho'
  rw [List.length_map] at hz
  -- the pairs as the library tells them
  let vps : List (Value × Value) := (List.range prs.length).map fun j => ((match s.heap.get? (ps.getD j 0) with
    | some ⟨_, _, .seq z _, _⟩ => z.getD 0 .none
    | _ => .none), (prs.getD j (.inl 0, .none)).2)
  have lv : vps.length = ps.length := by simp [vps, hl]
  have key : ∀ (j : Nat) (k v : Value), vps[j]? = some (k, v) → ∃ q0 : Key × Value, prs[j]? = some q0 ∧ q0.2 = v ∧ ps[j]? = some (ps.getD j 0) ∧ IsTup s.heap (ps.getD j 0) #[k, v] ∧ keyIs q0.1 k = true := by
    intro j k v e
    have hj : j < prs.length := by
      have := (List.getElem?_eq_some_iff.mp e).1
      omega
    obtain ⟨b, w, e1, e2, e3⟩ := hpr j prs[j] (List.getElem?_eq_getElem hj)
    have eb : ps.getD j 0 = b := by rw [List.getD_eq_getElem?_getD, e1]; rfl
    have ep : prs.getD j (.inl 0, .none) = prs[j] := by rw [List.getD_eq_getElem?_getD, List.getElem?_eq_getElem hj]; rfl
    obtain ⟨⟨c1, c2, c3, c4⟩, g1, g2, m, g3⟩ := id e2
    simp only at g3
    subst g3
    simp only [vps, List.getElem?_map] at e
    rw [List.getElem?_range hj] at e
    simp only [Option.map_some, Option.some.injEq, Prod.mk.injEq] at e
    rw [eb, g1, ep] at e
    obtain ⟨ek, ev⟩ := e
    have ek' : w = k := ek
    subst ek'
    refine ⟨prs[j], List.getElem?_eq_getElem hj, ev, by rw [eb]; exact e1, ?_, e3⟩
    rw [eb, ← ev]
    exact e2
  have PA : PySem.PairArg X.prog X.w "tuple" a (a :: (List.range vps.length).map fun j => ps.getD j 0) [] vps.length (PairRel vps) (fun h => PlainSeq "tuple" h a (ps.map Value.ref).toArray ∧ PairItems h (ps.map Value.ref).toArray (fun j => ps.getD j 0) vps) :=
    PySem.PairArg.tuple a _ _ vps
  have ok : PlainSeq "tuple" s.heap a (ps.map Value.ref).toArray ∧ PairItems s.heap (ps.map Value.ref).toArray (fun j => ps.getD j 0) vps := by
    refine ⟨⟨o, n, ho, hc, hd, hdat⟩, by rw [List.size_toArray, List.length_map, lv], fun j k v e => ?_⟩
    obtain ⟨q0, _, _, e3, e4, _⟩ := key j k v e
    refine ⟨?_, .inl e4⟩
    rw [List.getElem?_toArray, List.getElem?_map, e3]
    rfl
  refine _root_.PySem.call_dict_pairs (knd := mixKind X.prog X.w) (kvs := prs) PA (I.ok.hd hcalm) ok ⟨by rw [lv, hl], fun j k v e => ?_⟩ (by rw [lv]; exact hz) fun h' tk hd' kp => ?_
  · obtain ⟨q0, e1, e2, _, _, e5⟩ := key j k v e
    exact ⟨q0.1, by rw [e1, ← e2], e5⟩
  · have hm : (s.heap.objs.size == sysModules) = false := beq_eq_false_iff_ne.mpr (Nat.ne_of_gt I.big)
    have hlen : (mergeK [] kvs).length ≤ sizeLine := by
      have h1 := length_mergeK kvs []
      have h2 := rel.length
      rw [List.length_nil, Nat.zero_add] at h1
      omega
    have kp' : ∀ b ob, s.heap.get? b = some ob → h'.get? b = some ob := fun b ob e => kp b ob (List.not_mem_nil) e
    have ob : ObjOk X.prog X.w (upd H s.heap.objs.size (.dK (mergeK [] kvs))) h' s.heap.objs.size (.dK (mergeK [] kvs)) := ⟨hlen, hm, merged [] prs, KV.merge rel .nil, hd'⟩
    exact ⟨.ref s.heap.objs.size, _, I.laid (t' := tk) kp' (Nat.le_refl _) ob, rfl, q _ (I.hok.fresh (Nat.le_refl _))⟩
end

/-! ### sorted(a tuple of pairs of ints) -/
section
variable {prog : Program} {w : World} {A : Around} {E : Value → Shared → Prop} {s : Shared}
/-- the heap with the items collected -/
def coll (h : Heap) (vs : List Value) : Heap := (h.push (seqObj "list" #[] 0)).update h.objs.size (Obj.mapSeq (· ++ vs.toArray))
theorem coll_size (h : Heap) (vs : List Value) : (coll h vs).objs.size = h.objs.size + 1 := by
  unfold coll
  rw [Heap.size_update, size_push']
theorem coll_old {h : Heap} {vs : List Value} {b : Addr} {o : Obj} (e : h.get? b = some o) : (coll h vs).get? b = some o := by
  unfold coll
  have n : b ≠ h.objs.size := Nat.ne_of_lt (Heap.lt_size e)
  rw [Heap.get?_update_ne _ _ _ _ n]
  exact Heap.get?_push_of_some _ e
theorem collT {l : Addr} {vs : List Value} {Q : List Value → Shared → Prop} (hl : IsTup s.heap l vs.toArray) (hz : vs.length ≤ sizeLine) (h : Q vs { s with heap := coll s.heap vs }) : wpAny (model prog w) A (collect (.ref l)) Q E s := by
  obtain ⟨o, ho, hc, n, hd⟩ := id hl
  unfold collect
  refine wpAny_bind (wpAny_runValue ?_)
  refine codeAny_builtin entry_proto_collect' ?_
  show wpAny _ _ (do again (.builtin "list.__iadd__" ⟨[← newList [], .ref l], []⟩)) _ _ s
  refine wpAny_bind ?_
  refine wpAny_newList (wpAny_pure ⟨Code.quiet_builtin _ (by decide +kernel), ?_⟩)
  refine codeAny_builtin entry_list_iadd' ?_
  have hn : (s.heap.push (seqObj "list" #[] 0)).get? s.heap.objs.size = some (seqObj "list" #[] 0) := Heap.get?_push_size _ rfl
  have ho' : (s.heap.push (seqObj "list" #[] 0)).get? l = some o := Heap.get?_push_of_some _ ho
  show wpAny _ _ (Builtin.List.listExtendWith (.ref s.heap.objs.size) (.ref l) (.ref s.heap.objs.size)) _ _ { s with heap := s.heap.push (seqObj "list" #[] 0) }
  unfold Builtin.List.listExtendWith
  refine wpAny_bind (wpAny_typeOf (T := "tuple") ⟨o, ho', hc⟩ ?_)
  have two : (Builtin.List.listSameRef (.ref s.heap.objs.size) (.ref l) || Value.type "tuple" == .type "list" || Value.type "tuple" == .type "tuple") = true := by
    have t3 : (Value.type "tuple" == Value.type "tuple") = true := by rfl
    rw [t3, Bool.or_true]
  rw [if_pos two]
  refine wpAny_bind (listItems_at ho' hd ?_)
  refine wpAny_bind (listItems_at (xs := #[]) (n := 0) hn rfl ?_)
  rw [if_neg (by simp)]
  have big : (#[] ++ vs.toArray : Array Value).size ≤ sizeLine + 1 := by
    simp only [Array.size_append, List.size_toArray, List.length_nil]
    show 0 + vs.length ≤ _
    omega
  refine wpAny_bind (listUpdate_at (xs := #[]) (n := 0) hn rfl ?_ (Nat.zero_le _) big)
  refine wpAny_pure ?_
  show wpAny (model prog w) A (do
      let o ← load s.heap.objs.size
      match o.data with
      | .seq xs _ => pure xs.toList
      | _ => unsupported "internal:collect") Q E { s with heap := coll s.heap vs }
  refine wpAny_bind (wpAny_load (get?_update_seq hn _) ?_)
  show wpAny _ _ (pure ((#[] : Array Value) ++ vs.toArray).toList) Q E _
  have ez : ((#[] : Array Value) ++ vs.toArray).toList = vs := by simp
  rw [ez]
  exact wpAny_pure h
theorem sortT {l : Addr} {vs : List Value} {k : Value → Int × Int} {Q : Value → Shared → Prop} (hl : IsTup s.heap l vs.toArray) (hz : vs.length ≤ sizeLine) (hp : ∀ v ∈ vs, Srt.IsPair s.heap v (k v).1 (k v).2)
    (h : ∀ (h' : Heap) (d : Addr) (out : List Value), SrtO.Srtd (fun v u => SrtO.lexB (k v) (k u)) out → SrtO.Stb (fun v u => SrtO.lexB (k v) (k u)) out vs → (∀ b o, s.heap.get? b = some o → h'.get? b = some o) → s.heap.objs.size ≤ d →
      (∃ n, h'.get? d = some (seqObj "list" out.toArray n)) → Q (.ref d) { s with heap := h' }) : wpAny (model prog w) A (call (.builtin "sorted") [.ref l]) Q E s := by
  refine Calls.call_function_entry kind_sorted plain_sorted entry_sorted (args_sorted1 _) ?_
  unfold Builtin.«sorted»
  refine wpAny_bind (m := checkCount "sorted" 1 1 _) (wpAny_pure ?_)
  refine wpAny_bind (collT hl hz ?_)
  refine wpAny_bind (wpAny_newList ?_ hz)
  have hoL : ((coll s.heap vs).push (seqObj "list" vs.toArray 0)).get? (s.heap.objs.size + 1) = some (seqObj "list" vs.toArray 0) := by
    rw [← coll_size s.heap vs]
    exact Heap.get?_push_size _ rfl
  have keep : ∀ b o, s.heap.get? b = some o → b ≠ s.heap.objs.size + 1 ∧ ((coll s.heap vs).push (seqObj "list" vs.toArray 0)).get? b = some o := fun b o q =>
    ⟨Nat.ne_of_lt (Nat.lt_succ_of_lt (Heap.lt_size q)), Heap.get?_push_of_some _ (coll_old q)⟩
  show wpAny _ _ _ _ _ { s with heap := (coll s.heap vs).push (seqObj "list" vs.toArray 0) }
  have e1 : (coll s.heap vs).objs.size = s.heap.objs.size + 1 := coll_size _ _
  have srt : 2 ≤ vs.length → SrtO.SortableO prog w A.in1.in1 { s with heap := (coll s.heap vs).push (seqObj "list" vs.toArray 0) } (s.heap.objs.size + 1) vs fun v u => SrtO.lexB (k v) (k u) := fun h2 => by
    refine SrtO.pairs_sortableO (by omega) (fun v hm => (hp v hm).keeps fun b o e _ => (keep b o e).2) fun o e => ?_
    have e' : some o = some (seqObj "list" vs.toArray 0) := e.symm.trans hoL
    cases e'
    intro c
    exact absurd (Value.type.inj c) (by decide)
  simp only [e1]
  refine wpAny_bind (wpAny_holding (wpAny_call_entry slot_list_sort ⟨_, hoL, rfl⟩ entry_list_sort ?_ (args_list_sort _)))
  refine SrtO.list_sort_ord (SrtO.swo_lex k) hoL hz srt fun out hs hb => ⟨_, rfl, ?_⟩
  refine wpAny_pure ⟨_, rfl, ?_⟩
  exact h (sortedAll s.heap vs out.toArray) _ out hs hb (fun b o e => sortedAll_old e) (Nat.le_succ _) (sortedAll_at s.heap vs out.toArray)
end
section
variable {X : Cx}
/-- sorted(t), t a tuple of pairs of ints -/
def rSortT (K : PySem.W.Frag) : List V → Hp → VK → Prop := fun vs H Q => ∃ (a : Addr) (xs : List V) (k : V → Int × Int), vs = [V.ref a] ∧ SqT K H a xs ∧ (∀ x ∈ xs, ∃ t, x = V.ref t ∧ SqT K H t [.int (k x).1, .int (k x).2]) ∧
  ∀ ys p, SrtO.Srtd (ltP k) ys → SrtO.Stb (ltP k) ys xs → H p = none → Q (.ref p) (upd H p (.lst ys))
theorem call_sortT : CallR X (.builtin "sorted") (rSortT X.K) := by
  intro pins s σ H vs us Q I r h
  obtain ⟨a, xs, k, rfl, hs, hx, q⟩ := h
  obtain ⟨its, rv, hl, hz⟩ := I.tuple hs
  obtain ⟨u, rfl, ru⟩ := vals1 r
  obtain rfl : u = Value.ref a := ru
  have len := rv.length
  obtain ⟨e1, e2⟩ := refs_back rv fun x m => (hx x m).imp fun t e => e.1
  have pr : ∀ v ∈ its, Srt.IsPair s.heap v (k (backV v)).1 (k (backV v)).2 := fun v hv => by
    obtain ⟨t, rfl⟩ := e2 v hv
    have hm : V.ref t ∈ xs := by
      rw [e1]
      exact List.mem_map.mpr ⟨_, hv, rfl⟩
    obtain ⟨t', e, ht⟩ := hx _ hm
    cases e
    obtain ⟨its2, r2, ⟨o, ho, hc, n, hd⟩, _⟩ := I.tuple ht
    obtain ⟨u1, u2, rfl, ri, rj⟩ := vals2 r2
    obtain ⟨t1, rfl⟩ := ri
    obtain ⟨t2, rfl⟩ := rj
    exact ⟨t, o, t1, t2, n, rfl, ho, hc, hd⟩
  refine sortT (k := fun u => k (backV u)) hl (by omega) pr fun h' d out h1 h2 kp hd hn => ?_
  have h3 : ∀ u ∈ out, ∃ a, u = Value.ref a := fun u hu => e2 u (h2.perm.mem_iff.mp hu)
  obtain ⟨n, hn⟩ := hn
  have hb : SrtO.Stb (ltP k) (out.map backV) xs := by
    rw [e1]
    exact SrtO.Stb.map (ltP_swo k) backV h2
  have hlen : (out.map backV).length ≤ sizeLine := by
    have := hb.perm.length_eq
    omega
  have ob : ObjOk X.prog X.w (upd H d (.lst (out.map backV))) h' d (.lst (out.map backV)) := ⟨hlen, out, n, vals_back h3, hn⟩
  exact ⟨.ref d, _, I.laid (t' := s.toks) kp hd ob, rfl, q _ d (SrtO.srtd_map h1) hb (I.hok.fresh hd)⟩
end
end Bk

set_option Elab.async false
set_option linter.all false
set_option maxRecDepth 100000
set_option maxHeartbeats 4000000
/-! What a reading evaluates to, told by data (PyData), whatever the heap grows by. -/
namespace Bk
open PySem PySem.Spec PyProof.Rows L2

/-! ### data over a heap -/
mutual
inductive TD (K : PySem.W.Frag) (H : Hp) : V → PyData → Prop
  | non : TD K H .non .none
  | bl (b : Bool) : TD K H (.bl b) (.bool b)
  | int (i : Int) : TD K H (.int i) (.int i)
  | str (x : Str) : TD K H (.str x) (.str x)
  | lst {a : Addr} {xs : List V} : H a = some (.lst xs) → TD K H (.ref a) (.list [])
  | tup {a : Addr} {vs : List V} {ds : List PyData} : PT H a vs → TDs K H vs ds → TD K H (.ref a) (.tuple ds)
inductive TDs (K : PySem.W.Frag) (H : Hp) : List V → List PyData → Prop
  | nil : TDs K H [] []
  | cons {v : V} {vs : List V} {d : PyData} {ds : List PyData} : TD K H v d → TDs K H vs ds → TDs K H (v :: vs) (d :: ds)
end
/-- what a later heap keeps: tuples as they are, lists as lists -/
structure Wx (H H' : Hp) : Prop where
  tups : ∀ a (o : Obj) xs, H a = some (.frz o (.tup xs)) → H' a = some (.frz o (.tup xs))
  lsts : ∀ a xs, H a = some (.lst xs) → ∃ ys, H' a = some (.lst ys)
theorem Wx.refl (H : Hp) : Wx H H := ⟨fun _ _ _ h => h, fun _ xs h => ⟨xs, h⟩⟩
theorem Wx.trans {H H1 H2 : Hp} (a : Wx H H1) (b : Wx H1 H2) : Wx H H2 := ⟨fun x o xs h => b.tups x o xs (a.tups x o xs h), fun x xs h => by
  obtain ⟨ys, e⟩ := a.lsts x xs h
  exact b.lsts x ys e⟩
theorem wx_same {H H' : Hp} (e : Same H H') : Wx H H' := ⟨fun a o xs h => e _ _ h, fun a xs h => ⟨xs, e _ _ h⟩⟩
theorem wx_lst {H : Hp} {a : Addr} {xs ys : List V} (h : H a = some (.lst xs)) : Wx H (upd H a (.lst ys)) := ⟨fun b o zs q => by
  rw [upd_ne (ne_of q h (fun z => by cases z))]
  exact q, fun b zs q => by
  by_cases e : b = a
  · rw [e]; exact ⟨ys, upd_same⟩
  · exact ⟨zs, by rw [upd_ne e]; exact q⟩⟩
theorem wx_dK {H : Hp} {a : Addr} {xs : List (Key × V)} {o : HO} (h : H a = some (.dK xs)) : Wx H (upd H a o) := ⟨fun b ob zs q => by
  rw [upd_ne (ne_of q h (fun z => by cases z))]
  exact q, fun b zs q => ⟨zs, by rw [upd_ne (ne_of q h (fun z => by cases z))]; exact q⟩⟩
theorem wx_frz {H : Hp} {a : Addr} {ob : Obj} {kvs : List (Key × V)} {o : HO} (h : H a = some (.frz ob (.dK kvs))) : Wx H (upd H a o) := ⟨fun b o' zs q => by
  rw [upd_ne (ne_of q h (fun z => by cases z))]
  exact q, fun b zs q => ⟨zs, by rw [upd_ne (ne_of q h (fun z => by cases z))]; exact q⟩⟩
theorem same_new {H : Hp} {p : Addr} {o : HO} (h : H p = none) : Same H (upd H p o) := fun b x e => by
  rw [upd_ne (ne_of_none e h)]
  exact e
/-- an object that H does not know may change -/
theorem same_mut {H H' : Hp} {p : Addr} {o : HO} (e : Same H H') (h : H p = none) : Same H (upd H' p o) := fun b u q => by
  rw [upd_ne (ne_of_none q h)]
  exact e b u q
section
variable {K : PySem.W.Frag} {H H' H1 H2 : Hp}
theorem wx_t (e : Wx H H') {a : Addr} {xs : List V} (h : PT H a xs) : PT H' a xs := by
  obtain ⟨o, h1, h2⟩ := h
  exact ⟨o, h1, e.tups _ _ _ h2⟩
theorem pt_new {a : Addr} {xs : List V} {o : Obj} (h : o.dict = none) : PT (upd H a (.frz o (.tup xs))) a xs := ⟨o, h, upd_same⟩
mutual
theorem TD.wx (e : Wx H H') : ∀ (d : PyData) (v : V), TD K H v d → TD K H' v d
  | .none, _, h => by cases h; exact .non
  | .bool b, _, h => by cases h; exact .bl b
  | .int i, _, h => by cases h; exact .int i
  | .str x, _, h => by cases h; exact .str x
  | .list _, _, h => by
    cases h with
    | lst h =>
      obtain ⟨ys, q⟩ := e.lsts _ _ h
      exact .lst q
  | .tuple ds, _, h => by
    cases h with
    | tup h1 h2 => exact .tup (wx_t e h1) (TDs.wx e ds _ h2)
  | .dict _, _, h => by cases h
theorem TDs.wx (e : Wx H H') : ∀ (ds : List PyData) (vs : List V), TDs K H vs ds → TDs K H' vs ds
  | [], _, h => by cases h; exact .nil
  | d :: ds, _, h => by
    cases h with
    | cons h1 h2 => exact .cons (TD.wx e d _ h1) (TDs.wx e ds _ h2)
end
theorem TD.up {v : V} {d : PyData} (h : TD K H v d) (e : Same H H') : TD K H' v d := TD.wx (wx_same e) d v h
theorem TDs.up {vs : List V} {ds : List PyData} (h : TDs K H vs ds) (e : Same H H') : TDs K H' vs ds := TDs.wx (wx_same e) ds vs h
theorem TD.w {v : V} {d : PyData} (h : TD K H v d) (e : Wx H H') : TD K H' v d := TD.wx e d v h
theorem TDs.w {vs : List V} {ds : List PyData} (h : TDs K H vs ds) (e : Wx H H') : TDs K H' vs ds := TDs.wx e ds vs h
theorem TD.int_eq {v : V} {i : Int} (h : TD K H v (.int i)) : v = .int i := by cases h; rfl
theorem TD.str_eq {v : V} {x : Str} (h : TD K H v (.str x)) : v = .str x := by cases h; rfl
theorem TD.bl_eq {v : V} {b : Bool} (h : TD K H v (.bool b)) : v = .bl b := by cases h; rfl
theorem TD.non_eq {v : V} (h : TD K H v .none) : v = .non := by cases h; rfl
theorem TD.tup_of {v : V} {ds : List PyData} (h : TD K H v (.tuple ds)) : ∃ a vs, v = .ref a ∧ PT H a vs ∧ TDs K H vs ds := by
  cases h with
  | tup h1 h2 => exact ⟨_, _, rfl, h1, h2⟩
theorem TDs.len : ∀ {vs : List V} {ds : List PyData}, TDs K H vs ds → vs.length = ds.length
  | _, [], h => by cases h; rfl
  | _, d :: ds, h => by
    cases h with
    | cons _ h2 => rw [List.length_cons, List.length_cons, TDs.len h2]
theorem TDs.get : ∀ {ds : List PyData} {vs : List V} {i : Nat} {d : PyData}, TDs K H vs ds → ds[i]? = some d → ∃ v, vs[i]? = some v ∧ TD K H v d
  | [], _, _, _, _, e => by simp at e
  | d :: ds, _, 0, x, h, e => by
    cases h with
    | cons h1 h2 =>
      have e' : d = x := by simpa using e
      subst e'
      exact ⟨_, rfl, h1⟩
  | d :: ds, _, i + 1, x, h, e => by
    cases h with
    | cons h1 h2 =>
      obtain ⟨v, a, b⟩ := TDs.get (i := i) h2 (by simpa using e)
      exact ⟨v, by simpa using a, b⟩
theorem TDs.getV : ∀ {ds : List PyData} {vs : List V} {i : Nat} {v : V}, TDs K H vs ds → vs[i]? = some v → ∃ d, ds[i]? = some d ∧ TD K H v d
  | _, [], _, _, _, e => by simp at e
  | _, w :: vs, 0, x, h, e => by
    cases h with
    | cons h1 h2 =>
      have e' : w = x := by simpa using e
      subst e'
      exact ⟨_, rfl, h1⟩
  | _, w :: vs, i + 1, x, h, e => by
    cases h with
    | cons h1 h2 =>
      obtain ⟨v, a, b⟩ := TDs.getV (i := i) h2 (by simpa using e)
      exact ⟨v, by simpa using a, b⟩
theorem TDs.app : ∀ {ds es : List PyData} {vs ws : List V}, TDs K H vs ds → TDs K H ws es → TDs K H (vs ++ ws) (ds ++ es)
  | [], _, _, _, h, q => by cases h; exact q
  | d :: ds, _, _, _, h, q => by
    cases h with
    | cons h1 h2 => exact .cons h1 (TDs.app h2 q)
theorem TDs.take (n : Nat) : ∀ {ds : List PyData} {vs : List V}, TDs K H vs ds → TDs K H (vs.take n) (ds.take n) := fun {ds vs} h => by
  induction n generalizing ds vs with
  | zero => exact .nil
  | succ n ih =>
    cases ds with
    | nil => cases h; exact .nil
    | cons d ds =>
      cases h with
      | cons h1 h2 => exact .cons h1 (ih h2)
theorem TDs.drop (n : Nat) : ∀ {ds : List PyData} {vs : List V}, TDs K H vs ds → TDs K H (vs.drop n) (ds.drop n) := fun {ds vs} h => by
  induction n generalizing ds vs with
  | zero => exact h
  | succ n ih =>
    cases ds with
    | nil => cases h; exact .nil
    | cons d ds =>
      cases h with
      | cons h1 h2 => exact ih h2
theorem TDs.ints : ∀ {ns : List Int} {vs : List V}, TDs K H vs (ns.map PyData.int) → vs = ns.map V.int
  | [], _, h => by cases h; rfl
  | n :: ns, _, h => by
    cases h with
    | cons h1 h2 => rw [h1.int_eq, TDs.ints h2]; rfl
theorem TDs.of_ints : ∀ (ns : List Int), TDs K H (ns.map V.int) (ns.map PyData.int)
  | [] => .nil
  | n :: ns => .cons (.int n) (TDs.of_ints ns)
theorem TDs.bls : ∀ {ns : List Bool} {vs : List V}, TDs K H vs (ns.map PyData.bool) → vs = ns.map V.bl
  | [], _, h => by cases h; rfl
  | n :: ns, _, h => by
    cases h with
    | cons h1 h2 => rw [h1.bl_eq, TDs.bls h2]; rfl
theorem TDs.set : ∀ {ds : List PyData} {vs : List V} (i : Nat) {v : V} {d : PyData}, TDs K H vs ds → TD K H v d → TDs K H (vs.set i v) (ds.set i d)
  | [], _, _, _, _, h, _ => by cases h; exact .nil
  | d :: ds, _, 0, _, _, h, q => by
    cases h with
    | cons h1 h2 => exact .cons q h2
  | d :: ds, _, i + 1, _, _, h, q => by
    cases h with
    | cons h1 h2 => exact .cons h1 (TDs.set i h2 q)

/-! ### plain data: no lists within; its equality -/
mutual
def noL : PyData → Bool
  | .list _ => false
  | .dict _ => false
  | .tuple ds => noLs ds
  | _ => true
def noLs : List PyData → Bool
  | [] => true
  | d :: ds => noL d && noLs ds
end
mutual
theorem TD.dp : ∀ (d : PyData) (v : V), noL d = true → TD K H v d → Dp K H v d
  | .none, _, _, h => by cases h; exact .non
  | .bool b, _, _, h => by cases h; exact .bl b
  | .int i, _, _, h => by cases h; exact .int i
  | .str x, _, _, h => by cases h; exact .str x
  | .list _, _, n, h => by simp [noL] at n
  | .tuple ds, _, n, h => by
    cases h with
    | tup h1 h2 => exact .tup h1.sq (TDs.dp ds _ (by simpa [noL] using n) h2)
  | .dict _, _, _, h => by cases h
theorem TDs.dp : ∀ (ds : List PyData) (vs : List V), noLs ds = true → TDs K H vs ds → DpAll K H vs ds
  | [], _, _, h => by cases h; exact .nil
  | d :: ds, _, n, h => by
    cases h with
    | cons h1 h2 =>
      have n' : noL d = true ∧ noLs ds = true := by simpa [noLs] using n
      exact .cons (TD.dp d _ n'.1 h1) (TDs.dp ds _ n'.2 h2)
end

/-! ### evaluation -/
def ED (K : PySem.W.Frag) (te : TE) (σ : L2.St) (H : Hp) (d : PyData) : Prop := ∀ H1, Same H H1 → ∀ Q : VK, (∀ v H2, Same H1 H2 → TD K H2 v d → Q v H2) → te σ H1 Q
/-- a new list -/
def EL (K : PySem.W.Frag) (te : TE) (σ : L2.St) (H : Hp) (ds : List PyData) : Prop :=
  ∀ H1, Same H H1 → ∀ Q : VK, (∀ p vs H2, H1 p = none → Same H1 H2 → H2 p = some (.lst vs) → TDs K H2 vs ds → Q (.ref p) H2) → te σ H1 Q
def EA (K : PySem.W.Frag) (ta : TA) (σ : L2.St) (H : Hp) (ds : List PyData) : Prop := ∀ H1, Same H H1 → ∀ Q : List V → Hp → Prop, (∀ vs H2, Same H1 H2 → TDs K H2 vs ds → Q vs H2) → ta σ H1 Q
def ET (tt : TT) (σ : L2.St) (H : Hp) (b : Bool) : Prop := ∀ H1, Same H H1 → ∀ Q : Bool → Hp → Prop, (∀ H2, Same H1 H2 → Q b H2) → tt σ H1 Q
/-- a value as it is -/
def EV (te : TE) (σ : L2.St) (H : Hp) (v : V) : Prop := ∀ H1, Same H H1 → ∀ Q : VK, (∀ H2, Same H1 H2 → Q v H2) → te σ H1 Q
def EP (to : TO) (σ : L2.St) (H : Hp) (o : Option Int) : Prop := ∀ H1, Same H H1 → ∀ Q : Option Int → Hp → Prop, (∀ H2, Same H1 H2 → Q o H2) → to σ H1 Q
/-- what follows, wherever the heap has grown -/
def KP (p : L2.St → Hp → Prop) (σ : L2.St) (H : Hp) : Prop := ∀ H1, Same H H1 → p σ H1

variable {σ : L2.St} {ta tb te tc : TE} {tt t u : TT} {d e : PyData} {ds es : List PyData} {v w : V}
theorem ED.mono (h : ED K te σ H d) (e : Same H H') : ED K te σ H' d := fun H1 a => h H1 (e.trans a)
theorem EL.mono (h : EL K te σ H ds) (e : Same H H') : EL K te σ H' ds := fun H1 a => h H1 (e.trans a)
theorem ET.mono {b : Bool} (h : ET tt σ H b) (e : Same H H') : ET tt σ H' b := fun H1 a => h H1 (e.trans a)
theorem KP.mono {p : L2.St → Hp → Prop} (h : KP p σ H) (e : Same H H') : KP p σ H' := fun H1 a => h H1 (e.trans a)
theorem ed_var {i : Nat} (h : σ[i]? = some (some v)) (q : TD K H v d) : ED K (tVar i) σ H d := fun H1 a Q k => ⟨v, h, k v H1 (Same.refl _) (q.up a)⟩
theorem ev_var {i : Nat} (h : σ[i]? = some (some v)) : EV (tVar i) σ H v := fun H1 _ Q k => ⟨v, h, k H1 (Same.refl _)⟩
theorem ev_c : EV (tC v) σ H v := fun H1 _ Q k => k H1 (Same.refl _)
theorem ed_ev (h : EV te σ H v) (q : TD K H v d) : ED K te σ H d := fun H1 a Q k => h H1 a _ fun H2 b => k v H2 b (q.up (a.trans b))
theorem ed_int {i : Int} : ED K (tC (.int i)) σ H (.int i) := ed_ev ev_c (.int i)
theorem ed_bl {b : Bool} : ED K (tC (.bl b)) σ H (.bool b) := ed_ev ev_c (.bl b)
theorem ed_non : ED K (tC .non) σ H .none := ed_ev ev_c .non
theorem ed_str {x : Str} : ED K (tC (.str x)) σ H (.str x) := ed_ev ev_c (.str x)
theorem ed_is (h : ED K te σ H d) (z : d = e) : ED K te σ H e := by rw [← z]; exact h
theorem et_is {a b : Bool} (h : ET tt σ H a) (e : a = b) : ET tt σ H b := by rw [← e]; exact h
theorem ev_int {i : Int} (h : ED K te σ H (.int i)) : EV te σ H (.int i) := fun H1 a Q k => h H1 a _ fun v H2 b q => by rw [q.int_eq]; exact k H2 b
theorem ev_str {x : Str} (h : ED K te σ H (.str x)) : EV te σ H (.str x) := fun H1 a Q k => h H1 a _ fun v H2 b q => by rw [q.str_eq]; exact k H2 b
theorem ev_bl {x : Bool} (h : ED K te σ H (.bool x)) : EV te σ H (.bl x) := fun H1 a Q k => h H1 a _ fun v H2 b q => by rw [q.bl_eq]; exact k H2 b
/-! operators on ints -/
theorem ed_I0 {g : Int → Int → Int} {i j : Int} (ha : ED K ta σ H (.int i)) (hb : ED K tb σ H (.int j)) : ED K (tOp (rI0 fun i j => .int (g i j)) ta tb) σ H (.int (g i j)) := fun H1 a Q k =>
  ev_int ha H1 a _ fun H2 b => ev_int hb H2 (a.trans b) _ fun H3 c => ⟨i, j, rfl, rfl, k _ H3 (b.trans c) (.int _)⟩
theorem ed_B0 {g : Int → Int → Bool} {i j : Int} (ha : ED K ta σ H (.int i)) (hb : ED K tb σ H (.int j)) : ED K (tOp (rI0 fun i j => .bl (g i j)) ta tb) σ H (.bool (g i j)) := fun H1 a Q k =>
  ev_int ha H1 a _ fun H2 b => ev_int hb H2 (a.trans b) _ fun H3 c => ⟨i, j, rfl, rfl, k _ H3 (b.trans c) (.bl _)⟩
theorem ed_I {C : Int → Int → Prop} {g : Int → Int → Int} {i j : Int} (ha : ED K ta σ H (.int i)) (hb : ED K tb σ H (.int j)) (hc : C i j) : ED K (tOp (rI C fun i j => .int (g i j)) ta tb) σ H (.int (g i j)) := fun H1 a Q k =>
  ev_int ha H1 a _ fun H2 b => ev_int hb H2 (a.trans b) _ fun H3 c => ⟨i, j, rfl, rfl, hc, k _ H3 (b.trans c) (.int _)⟩
theorem ed_neg {i : Int} (ha : ED K ta σ H (.int i)) : ED K (tUn (rU fun i => .int (-i)) ta) σ H (.int (-i)) := fun H1 a Q k =>
  ev_int ha H1 a _ fun H2 b => ⟨i, rfl, k _ H2 b (.int _)⟩
theorem ed_eqI {i j : Int} (ha : ED K ta σ H (.int i)) (hb : ED K tb σ H (.int j)) : ED K (tOp rEq ta tb) σ H (.bool (decide (i = j))) := fun H1 a Q k =>
  ev_int ha H1 a _ fun H2 b => ev_int hb H2 (a.trans b) _ fun H3 c => ⟨rfl, k _ H3 (b.trans c) (by
    have e : decide (V.int i = V.int j) = decide (i = j) := by
      by_cases h : i = j
      · simp [h]
      · rw [decide_eq_false h, decide_eq_false fun z => h (V.int.inj z)]
    rw [e]
    exact .bl _)⟩
theorem ed_neI {i j : Int} (ha : ED K ta σ H (.int i)) (hb : ED K tb σ H (.int j)) : ED K (tOp rNe ta tb) σ H (.bool (!decide (i = j))) := fun H1 a Q k =>
  ev_int ha H1 a _ fun H2 b => ev_int hb H2 (a.trans b) _ fun H3 c => ⟨rfl, k _ H3 (b.trans c) (by
    have e : decide (V.int i = V.int j) = decide (i = j) := by
      by_cases h : i = j
      · simp [h]
      · rw [decide_eq_false h, decide_eq_false fun z => h (V.int.inj z)]
    rw [e]
    exact .bl _)⟩
theorem ed_eqS {x y : Str} (ha : ED K ta σ H (.str x)) (hb : ED K tb σ H (.str y)) : ED K (tOp rEq ta tb) σ H (.bool (decide (x = y))) := fun H1 a Q k =>
  ev_str ha H1 a _ fun H2 b => ev_str hb H2 (a.trans b) _ fun H3 c => ⟨rfl, k _ H3 (b.trans c) (by
    have e : decide (V.str x = V.str y) = decide (x = y) := by
      by_cases h : x = y
      · simp [h]
      · rw [decide_eq_false h, decide_eq_false fun z => h (V.str.inj z)]
    rw [e]
    exact .bl _)⟩
theorem ed_neS {x y : Str} (ha : ED K ta σ H (.str x)) (hb : ED K tb σ H (.str y)) : ED K (tOp rNe ta tb) σ H (.bool (!decide (x = y))) := fun H1 a Q k =>
  ev_str ha H1 a _ fun H2 b => ev_str hb H2 (a.trans b) _ fun H3 c => ⟨rfl, k _ H3 (b.trans c) (by
    have e : decide (V.str x = V.str y) = decide (x = y) := by
      by_cases h : x = y
      · simp [h]
      · rw [decide_eq_false h, decide_eq_false fun z => h (V.str.inj z)]
    rw [e]
    exact .bl _)⟩
theorem ed_eqD (ha : ED K ta σ H d) (hb : ED K tb σ H e) (nd : noL d = true := by rfl) (ne : noL e = true := by rfl) (sd : SeqAt.shaped d = true := by rfl) (se : SeqAt.shaped e = true := by rfl) : ED K (tOp (rEqD K) ta tb) σ H (.bool (PyData.eqv d e)) := fun H1 a Q k =>
  ha H1 a _ fun x H2 b qx => hb H2 (a.trans b) _ fun y H3 c qy => ⟨d, e, TD.dp d x nd (qx.up c), TD.dp e y ne qy, sd, se, k _ H3 (b.trans c) (.bl _)⟩
theorem ed_neD (ha : ED K ta σ H d) (hb : ED K tb σ H e) (nd : noL d = true := by rfl) (ne : noL e = true := by rfl) (sd : SeqAt.shaped d = true := by rfl) (se : SeqAt.shaped e = true := by rfl) : ED K (tOp (rNeD K) ta tb) σ H (.bool (!PyData.eqv d e)) := fun H1 a Q k =>
  ha H1 a _ fun x H2 b qx => hb H2 (a.trans b) _ fun y H3 c qy => ⟨d, e, TD.dp d x nd (qx.up c), TD.dp e y ne qy, sd, se, k _ H3 (b.trans c) (.bl _)⟩
def isNon : PyData → Bool
  | .none => true
  | _ => false
theorem td_non {v : V} {d : PyData} (h : TD K H v d) : decide (v = .non) = isNon d := by
  cases h <;> rfl
theorem ed_isN (ha : ED K ta σ H d) : ED K (tIsN ta) σ H (.bool (isNon d)) := fun H1 a Q k => ha H1 a _ fun x H2 b q => by
  rw [td_non q]
  exact k _ H2 b (.bl _)
theorem ed_notN (ha : ED K ta σ H d) : ED K (tNotN ta) σ H (.bool (!isNon d)) := fun H1 a Q k => ha H1 a _ fun x H2 b q => by
  rw [td_non q]
  exact k _ H2 b (.bl _)
/-! tuples -/
theorem ed_ix {i : Int} (ha : ED K ta σ H (.tuple ds)) (hb : ED K tb σ H (.int i)) (h : atI ds i = some d) : ED K (tOp (rIxT K) ta tb) σ H d := fun H1 a Q k =>
  ha H1 a _ fun x H2 b q => ev_int hb H2 (a.trans b) _ fun H3 c => by
    obtain ⟨p, vs, rfl, q1, q2⟩ := (q.up c).tup_of
    have q2' := q2
    unfold atI at h
    obtain ⟨j, e1, e2⟩ := Option.bind_eq_some_iff.mp h
    obtain ⟨v, e3, q3⟩ := q2.get e2
    exact ⟨p, vs, i, v, rfl, rfl, q1.sq, by unfold atI; rw [q2.len, e1]; exact e3, k v H3 (b.trans c) q3⟩
theorem ea_nil : EA K tNil σ H [] := fun H1 _ Q k => k [] H1 (Same.refl _) .nil
theorem ea_cons {tr : TA} (ha : ED K ta σ H d) (hr : EA K tr σ H ds) : EA K (tCons ta tr) σ H (d :: ds) := fun H1 a Q k =>
  ha H1 a _ fun v H2 b q => hr H2 (a.trans b) _ fun vs H3 c qs => k _ H3 (b.trans c) (.cons (q.up c) qs)
theorem ed_tup {tr : TA} (h : EA K tr σ H ds) (hl : ds.length ≤ sizeLine := by (show _ ≤ 16777216); decide) : ED K (tTupP tr) σ H (.tuple ds) := fun H1 a Q k => h H1 a _ fun vs H2 b q =>
  ⟨by rw [q.len]; exact hl, fun p o np no => k _ _ (b.trans (same_new np)) (.tup (pt_new no) (q.up (same_new np)))⟩
theorem el_lst {tr : TA} (h : EA K tr σ H ds) (hl : ds.length ≤ sizeLine := by (show _ ≤ 16777216); decide) : EL K (tLst tr) σ H ds := fun H1 a Q k => h H1 a _ fun vs H2 b q =>
  ⟨by rw [q.len]; exact hl, fun p np => k p vs _ (b.free np) (b.trans (same_new np)) upd_same (q.up (same_new np))⟩
/-- a list made on the way, an item of it -/
theorem ed_ixL {i : Int} (ha : EL K ta σ H ds) (hb : ED K tb σ H (.int i)) (h : atI ds i = some d) : ED K (tOp (rIxL K) ta tb) σ H d := fun H1 a Q k =>
  ha H1 a _ fun p vs H2 np b hp q => ev_int hb H2 (a.trans b) _ fun H3 c => by
    have q2 := q.up c
    unfold atI at h
    obtain ⟨j, e1, e2⟩ := Option.bind_eq_some_iff.mp h
    obtain ⟨v, e3, q3⟩ := q2.get e2
    exact ⟨p, vs, i, v, rfl, rfl, .inl (.inl (c _ _ hp)), by unfold atI; rw [q2.len, e1]; exact e3, k v H3 (b.trans c) q3⟩
/-- an item of a list that stands -/
theorem ed_ixV {p : Addr} {vs : List V} {i : Int} (hp : H p = some (.lst vs)) (q : TDs K H vs ds) (ha : EV ta σ H (.ref p)) (hb : ED K tb σ H (.int i)) (h : atI ds i = some d) : ED K (tOp (rIxL K) ta tb) σ H d := fun H1 a Q k =>
  ha H1 a _ fun H2 b => ev_int hb H2 (a.trans b) _ fun H3 c => by
    have s3 := (a.trans b).trans c
    have q2 := q.up s3
    unfold atI at h
    obtain ⟨j, e1, e2⟩ := Option.bind_eq_some_iff.mp h
    obtain ⟨v, e3, q3⟩ := q2.get e2
    exact ⟨p, vs, i, v, rfl, rfl, .inl (.inl (s3 _ _ hp)), by unfold atI; rw [q2.len, e1]; exact e3, k v H3 (b.trans c) q3⟩
theorem ep_none : EP tNoPart σ H none := fun H1 _ Q k => k H1 (Same.refl _)
theorem ep_some {i : Int} (h : ED K te σ H (.int i)) : EP (tPart te) σ H (some i) := fun H1 a Q k => ev_int h H1 a _ fun H2 b => ⟨i, rfl, k H2 b⟩
def cutD (ds : List PyData) (lo hi : Option Int) : List PyData := (ds.drop (HT.sIx ds.length 0 lo)).take (HT.sIx ds.length ds.length hi - HT.sIx ds.length 0 lo)
theorem td_cut {vs : List V} (q : TDs K H vs ds) (lo hi : Option Int) : TDs K H (cutV vs lo hi) (cutD ds lo hi) := by
  unfold cutV cutD
  rw [q.len]
  exact (q.drop _).take _
theorem ed_sl {lo hi : Option Int} {tl th : TO} (ha : ED K ta σ H (.tuple ds)) (h1 : EP tl σ H lo) (h2 : EP th σ H hi) : ED K (tSl (rSlP K) ta tl th) σ H (.tuple (cutD ds lo hi)) := fun H1 a Q k =>
  ha H1 a _ fun x H2 b q => h1 H2 (a.trans b) _ fun H3 c => h2 H3 ((a.trans b).trans c) _ fun H4 f => by
    obtain ⟨p, vs, rfl, q1, q2⟩ := (q.up (c.trans f)).tup_of
    refine ⟨p, vs, rfl, q1, fun hw => k _ _ ((b.trans c).trans f) (.tup q1 ?_), fun r o nr no => k _ _ (((b.trans c).trans f).trans (same_new nr)) (.tup (pt_new no) ((td_cut q2 lo hi).up (same_new nr)))⟩
    rw [← hw]
    exact td_cut q2 lo hi
theorem ed_cat (ha : ED K ta σ H (.tuple ds)) (hb : ED K tb σ H (.tuple es)) (hl : ds.length + es.length ≤ sizeLine) : ED K (tOp (rCatP K) ta tb) σ H (.tuple (ds ++ es)) := fun H1 a Q k =>
  ha H1 a _ fun x H2 b q => hb H2 (a.trans b) _ fun y H3 c r => by
    obtain ⟨p, vs, rfl, q1, q2⟩ := (q.up c).tup_of
    obtain ⟨p', ws, rfl, r1, r2⟩ := r.tup_of
    refine ⟨p, p', vs, ws, rfl, rfl, q1, r1, by rw [q2.len, r2.len]; exact hl, fun e => ?_, fun e => ?_, fun z o nz no => ?_⟩
    · subst e
      cases q2
      exact k _ _ (b.trans c) (.tup r1 r2)
    · subst e
      cases r2
      have ez : ds ++ ([] : List PyData) = ds := List.append_nil ds
      rw [ez] at k
      exact k _ _ (b.trans c) (.tup q1 q2)
    · exact k _ _ ((b.trans c).trans (same_new nz)) (.tup (pt_new no) ((q2.app r2).up (same_new nz)))
/-! lists as values -/
def rLen1 (K : PySem.W.Frag) : List V → Hp → VK → Prop := fun xs H Q => ∃ p ys, xs = [.ref p] ∧ (SqL K H p ys ∨ SqT K H p ys) ∧ Q (.int ys.length) H
theorem ed_lenT (ha : ED K ta σ H (.tuple ds)) : ED K (tCB (rLen1 K) (tCons ta tNil)) σ H (.int (ds.length : Int)) := fun H1 a Q k =>
  ha H1 a _ fun x H2 b q => by
    obtain ⟨p, vs, rfl, q1, q2⟩ := q.tup_of
    exact ⟨p, vs, rfl, .inr q1.sq, by rw [q2.len]; exact k _ H2 b (.int _)⟩
theorem ed_lenV {p : Addr} {vs : List V} (hp : H p = some (.lst vs)) (ha : EV ta σ H (.ref p)) : ED K (tCB (rLen1 K) (tCons ta tNil)) σ H (.int (vs.length : Int)) := fun H1 a Q k =>
  ha H1 a _ fun H2 b => ⟨p, vs, rfl, .inl (.inl (.inl ((a.trans b) _ _ hp))), k _ H2 b (.int _)⟩
theorem ed_lenL (ha : EL K ta σ H ds) : ED K (tCB (rLen1 K) (tCons ta tNil)) σ H (.int (ds.length : Int)) := fun H1 a Q k =>
  ha H1 a _ fun p vs H2 _ b hp q => ⟨p, vs, rfl, .inl (.inl (.inl hp)), by rw [q.len]; exact k _ H2 b (.int _)⟩
theorem ed_tupL (ha : EL K ta σ H ds) : ED K (tCB (rTupP K) (tCons ta tNil)) σ H (.tuple ds) := fun H1 a Q k =>
  ha H1 a _ fun p vs H2 _ b hp q => ⟨p, vs, rfl, .inl ⟨.inl (.inl hp), fun l o nl no => k _ _ (b.trans (same_new nl)) (.tup (pt_new no) (q.up (same_new nl)))⟩⟩
theorem ed_tupV {p : Addr} {vs : List V} (hp : H p = some (.lst vs)) (q : TDs K H vs ds) (ha : EV ta σ H (.ref p)) : ED K (tCB (rTupP K) (tCons ta tNil)) σ H (.tuple ds) := fun H1 a Q k =>
  ha H1 a _ fun H2 b => ⟨p, vs, rfl, .inl ⟨.inl (.inl ((a.trans b) _ _ hp)), fun l o nl no => k _ _ (b.trans (same_new nl)) (.tup (pt_new no) (q.up ((a.trans b).trans (same_new nl))))⟩⟩
theorem ed_tupT (ha : ED K ta σ H (.tuple ds)) : ED K (tCB (rTupP K) (tCons ta tNil)) σ H (.tuple ds) := fun H1 a Q k =>
  ha H1 a _ fun x H2 b q => by
    obtain ⟨p, vs, rfl, q1, q2⟩ := q.tup_of
    exact ⟨p, vs, rfl, .inr ⟨q1, k _ H2 b (.tup q1 q2)⟩⟩
theorem ed_any {bs : List Bool} (ha : EL K ta σ H (bs.map PyData.bool)) : ED K (tCB (rAny K) (tCons ta tNil)) σ H (.bool (bs.any id)) := fun H1 a Q k =>
  ha H1 a _ fun p vs H2 _ b hp q => ⟨p, bs, rfl, by rw [← q.bls]; exact .inl (.inl hp), k _ H2 b (.bl _)⟩
theorem ed_all {bs : List Bool} (ha : EL K ta σ H (bs.map PyData.bool)) : ED K (tCB (rAll K) (tCons ta tNil)) σ H (.bool (bs.all id)) := fun H1 a Q k =>
  ha H1 a _ fun p vs H2 _ b hp q => ⟨p, bs, rfl, by rw [← q.bls]; exact .inl (.inl hp), k _ H2 b (.bl _)⟩
theorem ed_sum {ns : List Int} (ha : EL K ta σ H (ns.map PyData.int)) : ED K (tCB (rSum K) (tCons ta tNil)) σ H (.int ns.sum) := fun H1 a Q k =>
  ha H1 a _ fun p vs H2 _ b hp q => ⟨p, ns, rfl, by rw [← q.ints]; exact .inl (.inl hp), k _ H2 b (.int _)⟩
/-- list == [] -/
theorem ed_eqNil (ha : EL K ta σ H ds) (hn : noLs ds = true := by rfl) (sd : SeqAt.shaped (.list ds) = true := by rfl) {b : Bool} (hb : PyData.eqv (.list ds) (.list []) = b) : ED K (tOp (rEqD K) ta (tLst tNil)) σ H (.bool b) := fun H1 a Q k =>
  ha H1 a _ fun p vs H2 _ s hp q => ⟨Nat.zero_le _, fun r nr => ⟨.list ds, .list [], .lst (.inl (.inl (same_new nr _ _ hp))) (TDs.dp ds vs hn (q.up (same_new nr))), .lst (.inl (.inl upd_same)) .nil, sd, rfl, by
    rw [hb]
    exact k _ _ (s.trans (same_new nr)) (.bl _)⟩⟩
theorem ed_neNil (ha : EL K ta σ H ds) (hn : noLs ds = true := by rfl) (sd : SeqAt.shaped (.list ds) = true := by rfl) {b : Bool} (hb : (!PyData.eqv (.list ds) (.list [])) = b) : ED K (tOp (rNeD K) ta (tLst tNil)) σ H (.bool b) := fun H1 a Q k =>
  ha H1 a _ fun p vs H2 _ s hp q => ⟨Nat.zero_le _, fun r nr => ⟨.list ds, .list [], .lst (.inl (.inl (same_new nr _ _ hp))) (TDs.dp ds vs hn (q.up (same_new nr))), .lst (.inl (.inl upd_same)) .nil, sd, rfl, by
    rw [hb]
    exact k _ _ (s.trans (same_new nr)) (.bl _)⟩⟩
theorem inV_ints (i : Int) : ∀ ns : List Int, inV (.int i) (ns.map V.int) = ns.any fun n => decide (n = i)
  | [] => rfl
  | n :: ns => by
    have h := inV_ints i ns
    unfold inV at h ⊢
    rw [List.map_cons, List.any_cons, List.any_cons, h]
    show ((n == i) || _) = _
    rw [Bool.beq_eq_decide_eq]
theorem flat_ints : ∀ ns : List Int, (ns.map V.int).all flatV = true
  | [] => rfl
  | n :: ns => by rw [List.map_cons, List.all_cons, flat_ints ns]; rfl
/-- i in (a list of ints made on the way) -/
theorem ed_inL {neg : Bool} {i : Int} {ns : List Int} (ha : ED K ta σ H (.int i)) (hb : EL K tb σ H (ns.map PyData.int)) : ED K (tOp (rIn K neg) ta tb) σ H (.bool (if neg then !(ns.any fun n => decide (n = i)) else ns.any fun n => decide (n = i))) := fun H1 a Q k =>
  ev_int ha H1 a _ fun H2 b => hb H2 (a.trans b) _ fun p vs H3 _ c hp q => ⟨p, vs, rfl, .inl (.inl (.inl hp)), rfl, by rw [q.ints]; exact flat_ints ns, by
    rw [q.ints, inV_ints]
    exact k _ H3 (b.trans c) (.bl _)⟩
theorem ed_inT {neg : Bool} {i : Int} {ns : List Int} (ha : ED K ta σ H (.int i)) (hb : ED K tb σ H (.tuple (ns.map PyData.int))) : ED K (tOp (rIn K neg) ta tb) σ H (.bool (if neg then !(ns.any fun n => decide (n = i)) else ns.any fun n => decide (n = i))) := fun H1 a Q k =>
  ev_int ha H1 a _ fun H2 b => hb H2 (a.trans b) _ fun y H3 c q => by
    obtain ⟨p, vs, rfl, q1, q2⟩ := q.tup_of
    exact ⟨p, vs, rfl, .inr q1.sq, rfl, by rw [q2.ints]; exact flat_ints ns, by
      rw [q2.ints, inV_ints]
      exact k _ H3 (b.trans c) (.bl _)⟩
/-! isinstance -/
def tyN : PyData → String
  | .none => "NoneType"
  | .bool _ => "bool"
  | .int _ => "int"
  | .str _ => "str"
  | .list _ => "list"
  | .tuple _ => "tuple"
  | .dict _ => "dict"
theorem td_ty {v : V} {d : PyData} (h : TD K H v d) : TyX K H v (.type (tyN d)) := by
  cases h with
  | non => exact .base .non
  | bl b => exact .base (.bl b)
  | int i => exact .base (.int i)
  | str x => exact .base (.str x)
  | lst h => exact .base (.lst h)
  | tup h _ =>
    obtain ⟨o, _, h⟩ := h
    exact .fTuple h
theorem ed_isi {n : String} {b : Bool} (ha : ED K ta σ H d) (h : kitB (tyN d) n = some b) : ED K (tCB (rIsi K) (tCons ta (tCons (tC (.ty n)) tNil))) σ H (.bool b) := fun H1 a Q k =>
  ha H1 a _ fun x H2 s q => ⟨x, .ty n, _, _, b, rfl, .ty n, td_ty q, kit_ty h, k _ H2 s (.bl _)⟩
/-! tests -/
theorem et_B {b : Bool} (h : ED K te σ H (.bool b)) : ET (tB te) σ H b := fun H1 a Q k => ev_bl h H1 a _ fun H2 s => ⟨b, rfl, k H2 s⟩
theorem et_and {a b : Bool} (h1 : ET t σ H a) (h2 : a = true → ET u σ H b) : ET (tAnd t u) σ H (a && b) := fun H1 s Q k => h1 H1 s _ fun H2 s2 => by
  cases a with
  | true =>
    show u σ H2 Q
    exact h2 rfl H2 (s.trans s2) Q fun H3 s3 => k H3 (s2.trans s3)
  | false =>
    show Q false H2
    exact k H2 s2
theorem et_or {a b : Bool} (h1 : ET t σ H a) (h2 : a = false → ET u σ H b) : ET (tOr t u) σ H (a || b) := fun H1 s Q k => h1 H1 s _ fun H2 s2 => by
  cases a with
  | true =>
    show Q true H2
    exact k H2 s2
  | false =>
    show u σ H2 Q
    exact h2 rfl H2 (s.trans s2) Q fun H3 s3 => k H3 (s2.trans s3)
theorem et_not {a : Bool} (h1 : ET t σ H a) : ET (tNot t) σ H (!a) := fun H1 s _ k => h1 H1 s _ fun H2 s2 => k H2 s2
theorem ed_andV {a b : Bool} (h1 : ED K ta σ H (.bool a)) (h2 : a = true → ED K tb σ H (.bool b)) : ED K (tAndV ta tb) σ H (.bool (a && b)) := fun H1 s Q k => ev_bl h1 H1 s _ fun H2 s2 => ⟨a, rfl, by
  cases a with
  | true =>
    show tb σ H2 Q
    exact h2 rfl H2 (s.trans s2) Q fun v H3 s3 q => k v H3 (s2.trans s3) q
  | false =>
    show Q (.bl false) H2
    exact k _ H2 s2 (.bl _)⟩
theorem ed_orV {a b : Bool} (h1 : ED K ta σ H (.bool a)) (h2 : a = false → ED K tb σ H (.bool b)) : ED K (tOrV ta tb) σ H (.bool (a || b)) := fun H1 s Q k => ev_bl h1 H1 s _ fun H2 s2 => ⟨a, rfl, by
  cases a with
  | true =>
    show Q (.bl true) H2
    exact k _ H2 s2 (.bl _)
  | false =>
    show tb σ H2 Q
    exact h2 rfl H2 (s.trans s2) Q fun v H3 s3 q => k v H3 (s2.trans s3) q⟩
theorem ed_notV {a : Bool} (h1 : ED K ta σ H (.bool a)) : ED K (tNotV ta) σ H (.bool (!a)) := fun H1 s Q k => ev_bl h1 H1 s _ fun H2 s2 => ⟨a, rfl, k _ H2 s2 (.bl _)⟩
theorem ed_if {b : Bool} (h : ET t σ H b) (h1 : b = true → ED K ta σ H d) (h2 : b = false → ED K tb σ H d) : ED K (tIf t ta tb) σ H d := fun H1 s Q k => h H1 s _ fun H2 s2 => by
  cases b with
  | true =>
    show ta σ H2 Q
    exact h1 rfl H2 (s.trans s2) Q fun v H3 s3 q => k v H3 (s2.trans s3) q
  | false =>
    show tb σ H2 Q
    exact h2 rfl H2 (s.trans s2) Q fun v H3 s3 q => k v H3 (s2.trans s3) q
/-- a < b < c over ints -/
theorem ed_chain {g1 g2 : Int → Int → Bool} {i j l : Int} (ha : ED K ta σ H (.int i)) (hb : ED K tb σ H (.int j)) (hc : ED K tc σ H (.int l)) :
    ED K (tChain (rI0 fun i j => .bl (g1 i j)) (rI0 fun i j => .bl (g2 i j)) ta tb tc) σ H (.bool (g1 i j && g2 j l)) := fun H1 s Q k =>
  ev_int ha H1 s _ fun H2 s2 => ev_int hb H2 (s.trans s2) _ fun H3 s3 => ⟨i, j, rfl, rfl, g1 i j, rfl, by
    cases hg : g1 i j with
    | true =>
      rw [hg] at k
      show tc σ H3 _
      exact ev_int hc H3 ((s.trans s2).trans s3) _ fun H4 s4 => ⟨j, l, rfl, rfl, k (.bl (g2 j l)) H4 ((s2.trans s3).trans s4) (.bl _)⟩
    | false =>
      rw [hg] at k
      show Q (.bl false) H3
      exact k _ H3 (s2.trans s3) (.bl _)⟩
/-! calls of our own defs -/
/-- a def that reckons on data: R tells which data it takes and what it gives -/
def spF (K : PySem.W.Frag) (n : Nat) (R : List PyData → PyData → Prop) : Sp := fun vs H Q _ => vs.length = n ∧ ∃ ds d, TDs K H vs ds ∧ R ds d ∧ ∀ v H', Same H H' → TD K H' v d → Q v H'
/-- .. that gives a new list -/
def spL (K : PySem.W.Frag) (n : Nat) (R : List PyData → List PyData → Prop) : Sp := fun vs H Q _ => vs.length = n ∧ ∃ ds es, TDs K H vs ds ∧ R ds es ∧ ∀ p ws H', H p = none → Same H H' → H' p = some (.lst ws) → TDs K H' ws es → Q (.ref p) H'
theorem ed_call {n : Nat} {R : List PyData → PyData → Prop} {E : XK} {tr : TA} (h : EA K tr σ H ds) (hR : R ds d) (hn : ds.length = n := by rfl) : ED K (tCall (spF K n R) [] E tr) σ H d := fun H1 s Q k =>
  h H1 s _ fun vs H2 s2 q => ⟨by rw [List.append_nil, q.len]; exact hn, ds, d, by rw [List.append_nil]; exact q, hR, fun v H3 s3 r => k v H3 (s2.trans s3) r⟩
theorem el_call {n : Nat} {R : List PyData → List PyData → Prop} {E : XK} {tr : TA} (h : EA K tr σ H ds) (hR : R ds es) (hn : ds.length = n := by rfl) : EL K (tCall (spL K n R) [] E tr) σ H es := fun H1 s Q k =>
  h H1 s _ fun vs H2 s2 q => ⟨by rw [List.append_nil, q.len]; exact hn, ds, es, by rw [List.append_nil]; exact q, hR, fun p ws H3 np s3 hp r => k p ws H3 (s2.free np) (s2.trans s3) hp r⟩
/-! statements -/
variable {D : Ends} {ts us : TS} {g : TG}
theorem k_if {b : Bool} (h : ET tt σ H b) (h1 : b = true → KP (ts D) σ H) (h2 : b = false → KP (us D) σ H) : KP (tIfS tt ts us D) σ H := fun H1 s => h H1 s _ fun H2 s2 => by
  cases b with
  | true =>
    show ts D σ H2
    exact h1 rfl H2 (s.trans s2)
  | false =>
    show us D σ H2
    exact h2 rfl H2 (s.trans s2)
theorem k_set {i : Nat} (h : ED K te σ H d) (k : ∀ v H1, Same H H1 → TD K H1 v d → KP D.nx (σ.set i (some v)) H1) : KP (tAsg te (gName i) D) σ H := fun H1 s => h H1 s _ fun v H2 s2 q => k v H2 (s.trans s2) q H2 (Same.refl _)
theorem k_setL {i : Nat} (h : EL K te σ H ds) (k : ∀ p vs H1, H p = none → Same H H1 → H1 p = some (.lst vs) → TDs K H1 vs ds → KP D.nx (σ.set i (some (.ref p))) H1) : KP (tAsg te (gName i) D) σ H := fun H1 s =>
  h H1 s _ fun p vs H2 np s2 hp q => k p vs H2 (s.free np) (s.trans s2) hp q H2 (Same.refl _)
theorem k_ret (h : ED K te σ H d) (k : ∀ v H1, Same H H1 → TD K H1 v d → D.rt v H1) : KP (tRet te D) σ H := fun H1 s => h H1 s _ fun v H2 s2 q => k v H2 (s.trans s2) q
theorem k_retL (h : EL K te σ H ds) (k : ∀ p vs H1, H p = none → Same H H1 → H1 p = some (.lst vs) → TDs K H1 vs ds → D.rt (.ref p) H1) : KP (tRet te D) σ H := fun H1 s =>
  h H1 s _ fun p vs H2 np s2 hp q => k p vs H2 (s.free np) (s.trans s2) hp q
theorem k_seq (h : KP (ts { D with nx := us D }) σ H) : KP (tSeq ts us D) σ H := h
theorem k_next (h : KP D.nx σ H) : KP (tNext D) σ H := h
/-- a, b = e over data -/
theorem k_unp2 {i j : Nat} (h : ED K te σ H (.tuple [d, e])) (k : ∀ v w H1, Same H H1 → TD K H1 v d → TD K H1 w e → KP D.nx ((σ.set i (some v)).set j (some w)) H1) :
    KP (tAsg te (gTup K 2 (gCons (gName i) (gCons (gName j) gNil))) D) σ H := fun H1 s => h H1 s _ fun x H2 s2 q => by
  obtain ⟨p, vs, rfl, q1, q2⟩ := q.tup_of
  cases q2 with
  | cons h1 h2 => cases h2 with
    | cons h2 h3 =>
      cases h3
      exact ⟨p, _, rfl, q1.sq, rfl, _, _, rfl, _, _, rfl, rfl, k _ _ H2 (s.trans s2) h1 h2 H2 (Same.refl _)⟩
end
end Bk

set_option linter.all false
/-! The plain part: gates, steps on circuits, what they keep. No program here. -/
namespace Bk
abbrev Ctl := List (Int × Int)
abbrev Gate := Int × Ctl
abbrev Circ := Int × List Gate

def look : Ctl → Int → Option Int
  | [], _ => none
  | c :: r, w => if c.1 = w then some c.2 else look r w
def has (cs : Ctl) (w : Int) : Bool := (look cs w).isSome
abbrev Asc (cs : Ctl) : Prop := cs.Pairwise fun a b => a.1 < b.1
def ins (p : Int × Int) : Ctl → Ctl
  | [] => [p]
  | q :: r => if p.1 < q.1 then p :: q :: r else if p.1 = q.1 then p :: r else q :: ins p r
def srt : Ctl → Ctl
  | [] => []
  | p :: r => ins p (srt r)
def del (cs : Ctl) (w : Int) : Ctl := cs.filter fun c => !decide (c.1 = w)
def put (cs : Ctl) (w v : Int) : Ctl := if has cs w then cs.map (fun c => if c.1 = w then (c.1, v) else c) else cs ++ [(w, v)]
abbrev keys (cs : Ctl) : List Int := cs.map (·.1)

theorem look_ins (p : Int × Int) : ∀ (cs : Ctl) (w : Int), look (ins p cs) w = if p.1 = w then some p.2 else look cs w
  | [], w => by simp [ins, look]
  | q :: r, w => by
    have ih := look_ins p r w
    unfold ins
    split
    · simp [look]
    · split
      · rename_i h1 h2
        simp only [look]
        by_cases e : p.1 = w
        · simp [e]
        · have : ¬ q.1 = w := fun z => e (h2.trans z)
          simp [e, this]
      · rename_i h1 h2
        simp only [look, ih]
        by_cases e : q.1 = w
        · have : ¬ p.1 = w := fun z => h2 (z.trans e.symm)
          simp [e, this]
        · simp [e]
theorem mem_ins {p x : Int × Int} : ∀ {cs : Ctl}, x ∈ ins p cs → x = p ∨ x ∈ cs
  | [], h => by simp [ins] at h; exact .inl h
  | q :: r, h => by
    unfold ins at h
    split at h
    · rcases List.mem_cons.mp h with h | h
      · exact .inl h
      · exact .inr h
    · split at h
      · rcases List.mem_cons.mp h with h | h
        · exact .inl h
        · exact .inr (List.mem_cons_of_mem _ h)
      · rcases List.mem_cons.mp h with h | h
        · exact .inr (by rw [h]; exact List.mem_cons_self)
        · rcases mem_ins h with h | h
          · exact .inl h
          · exact .inr (List.mem_cons_of_mem _ h)
theorem asc_ins {p : Int × Int} : ∀ {cs : Ctl}, Asc cs → Asc (ins p cs)
  | [], _ => by simp [ins]
  | q :: r, h => by
    have h1 := (List.pairwise_cons.mp h).1
    have h2 := (List.pairwise_cons.mp h).2
    unfold ins
    split
    · rename_i hlt
      refine List.pairwise_cons.mpr ⟨fun x hx => ?_, h⟩
      rcases List.mem_cons.mp hx with e | hx
      · rw [e]; exact hlt
      · have := h1 x hx
        omega
    · split
      · rename_i e
        exact List.pairwise_cons.mpr ⟨fun x hx => by have := h1 x hx; omega, h2⟩
      · refine List.pairwise_cons.mpr ⟨fun x hx => ?_, asc_ins h2⟩
        rcases mem_ins hx with e | hx
        · rw [e]; omega
        · exact h1 x hx
theorem look_srt : ∀ (cs : Ctl) (w : Int), look (srt cs) w = look cs w
  | [], _ => rfl
  | p :: r, w => by
    rw [srt, look_ins, look_srt r w]
    rfl
theorem asc_srt : ∀ (cs : Ctl), Asc (srt cs)
  | [] => List.Pairwise.nil
  | _ :: r => asc_ins (asc_srt r)
theorem look_none {cs : Ctl} {w : Int} (h : ∀ c ∈ cs, c.1 ≠ w) : look cs w = none := by
  induction cs with
  | nil => rfl
  | cons c r ih =>
    rw [look, if_neg (h c List.mem_cons_self)]
    exact ih fun d hd => h d (List.mem_cons_of_mem _ hd)
theorem look_mem : ∀ {cs : Ctl} {w v : Int}, look cs w = some v → (w, v) ∈ cs
  | c :: r, w, v, h => by
    rw [look] at h
    split at h
    · rename_i e
      have e2 : c.2 = v := Option.some.inj h
      rw [← e, ← e2]
      exact List.mem_cons_self
    · exact List.mem_cons_of_mem _ (look_mem h)
theorem look_of {cs : Ctl} (h : Asc cs) {w v : Int} (m : (w, v) ∈ cs) : look cs w = some v := by
  induction cs with
  | nil => cases m
  | cons c r ih =>
    have h1 := (List.pairwise_cons.mp h).1
    have h2 := (List.pairwise_cons.mp h).2
    rcases List.mem_cons.mp m with e | m
    · rw [look, ← e, if_pos rfl]
    · have q := h1 _ m
      have q' : c.1 < w := q
      rw [look, if_neg (by omega)]
      exact ih h2 m
theorem has_key {cs : Ctl} {w : Int} : has cs w = true ↔ w ∈ keys cs := by
  constructor
  · intro h
    obtain ⟨v, e⟩ := Option.isSome_iff_exists.mp h
    exact List.mem_map.mpr ⟨_, look_mem e, rfl⟩
  · intro h
    obtain ⟨c, m, e⟩ := List.mem_map.mp h
    cases q : look cs w with
    | none =>
      exfalso
      induction cs with
      | nil => cases m
      | cons d r ih =>
        rw [look] at q
        split at q
        · cases q
        · rename_i nd
          rcases List.mem_cons.mp m with z | m
          · exact nd (by rw [← z]; exact e)
          · exact ih (List.mem_map.mpr ⟨c, m, e⟩) m q
    | some v => simp [has, q]
theorem has_no {cs : Ctl} {w : Int} : has cs w = false ↔ look cs w = none := by
  unfold has
  cases look cs w <;> simp
theorem asc_keys {cs : Ctl} (h : Asc cs) : (keys cs).Pairwise (· < ·) := List.pairwise_map.mpr h
theorem asc_nodup {cs : Ctl} (h : Asc cs) : (keys cs).Nodup := (asc_keys h).imp fun h => Int.ne_of_lt h
/-- ascending rows that answer alike are one -/
theorem asc_uniq : ∀ {a b : Ctl}, Asc a → Asc b → (∀ w, look a w = look b w) → a = b
  | [], [], _, _, _ => rfl
  | [], c :: r, _, _, h => by
    have := h c.1
    rw [look, look, if_pos rfl] at this
    cases this
  | c :: r, [], _, _, h => by
    have := h c.1
    rw [look, look, if_pos rfl] at this
    cases this
  | c :: r, d :: t, ha, hb, h => by
    have a1 := (List.pairwise_cons.mp ha).1
    have a2 := (List.pairwise_cons.mp ha).2
    have b1 := (List.pairwise_cons.mp hb).1
    have b2 := (List.pairwise_cons.mp hb).2
    have hc := h c.1
    have hd := h d.1
    rw [look, look, if_pos rfl] at hc
    rw [look, look, if_pos rfl] at hd
    have ek : c.1 = d.1 := by
      by_cases e : c.1 = d.1
      · exact e
      · exfalso
        rw [if_neg (fun z => e z.symm)] at hc
        rw [if_neg e] at hd
        have m1 := b1 _ (look_mem hc.symm)
        have m2 := a1 _ (look_mem hd)
        have m1' : d.1 < c.1 := m1
        have m2' : c.1 < d.1 := m2
        omega
    rw [if_pos ek.symm] at hc
    have ev : c.2 = d.2 := Option.some.inj hc
    have ecd : c = d := Prod.ext ek ev
    subst ecd
    have ht : ∀ w, look r w = look t w := fun w => by
      by_cases e : c.1 = w
      · rw [look_none fun x hx z => ?_, look_none fun x hx z => ?_]
        · have := b1 x hx; omega
        · have := a1 x hx; omega
      · have q := h w
        rw [look, look, if_neg e, if_neg e] at q
        exact q
    rw [asc_uniq a2 b2 ht]
theorem look_del (w u : Int) : ∀ cs : Ctl, look (del cs w) u = if w = u then none else look cs u
  | [] => by simp [del, look]
  | c :: r => by
    have ih := look_del w u r
    unfold del at ih ⊢
    rw [List.filter_cons]
    by_cases e : c.1 = w
    · rw [if_neg (by simp [e]), ih]
      by_cases e2 : w = u
      · simp [e2]
      · have : ¬ c.1 = u := fun z => e2 (e.symm.trans z)
        simp [e2, look, this]
    · rw [if_pos (by simp [e]), look, ih]
      by_cases e2 : w = u
      · have : ¬ c.1 = u := fun z => e (z.trans e2.symm)
        simp [e2, this]
      · simp [e2, look]
theorem look_app (w : Int) : ∀ a b : Ctl, look (a ++ b) w = (look a w).or (look b w)
  | [], b => by simp [look]
  | c :: r, b => by
    rw [List.cons_append, look, look, look_app w r b]
    split <;> simp
theorem look_upd (w v u : Int) : ∀ cs : Ctl, look (cs.map fun c => if c.1 = w then (c.1, v) else c) u = if w = u then (look cs u).map fun _ => v else look cs u
  | [] => by simp [look]
  | c :: r => by
    have ih := look_upd w v u r
    rw [List.map_cons, look, ih, look]
    by_cases e : c.1 = w
    · by_cases e2 : w = u
      · simp [e, e2]
      · have : ¬ c.1 = u := fun z => e2 (e.symm.trans z)
        simp [e, e2]
    · by_cases e2 : w = u
      · have : ¬ c.1 = u := fun z => e (z.trans e2.symm)
        subst e2
        simp [e]
      · simp [e, e2]
theorem look_put (cs : Ctl) (w v u : Int) : look (put cs w v) u = if w = u then some v else look cs u := by
  unfold put
  split
  · rename_i h
    rw [look_upd]
    by_cases e : w = u
    · subst e
      obtain ⟨x, q⟩ := Option.isSome_iff_exists.mp h
      simp [q]
    · simp [e]
  · rename_i h
    have hn : look cs w = none := has_no.mp (by simpa using h)
    rw [look_app]
    by_cases e : w = u
    · subst e
      simp [hn, look]
    · simp [e, look]
def puts (cs : Ctl) : Ctl → Ctl
  | [] => cs
  | p :: r => puts (put cs p.1 p.2) r
theorem look_puts (u : Int) : ∀ (ps cs : Ctl), Asc ps → look (puts cs ps) u = (look ps u).or (look cs u)
  | [], cs, _ => by simp [puts, look]
  | p :: r, cs, h => by
    have h1 := (List.pairwise_cons.mp h).1
    have h2 := (List.pairwise_cons.mp h).2
    rw [puts, look_puts u r _ h2, look_put, look]
    by_cases e : p.1 = u
    · have : look r u = none := look_none fun x hx z => by have := h1 x hx; omega
      simp [e, this]
    · simp [e]
theorem keys_put {cs : Ctl} {w v x : Int} (h : x ∈ keys (put cs w v)) : x = w ∨ x ∈ keys cs := by
  have q := has_key.mpr h
  unfold has at q
  rw [look_put] at q
  by_cases e : w = x
  · exact .inl e.symm
  · rw [if_neg e] at q
    exact .inr (has_key.mp q)
theorem nodup_put {cs : Ctl} (h : (keys cs).Nodup) (w v : Int) : (keys (put cs w v)).Nodup := by
  unfold put
  split
  · have e : keys (cs.map fun c => if c.1 = w then (c.1, v) else c) = keys cs := by
      rw [keys, List.map_map]
      refine List.map_congr_left fun c _ => ?_
      show (if c.1 = w then (c.1, v) else c).1 = c.1
      split <;> rfl
    rw [e]
    exact h
  · rename_i hn
    have hn' : w ∉ keys cs := fun m => hn (has_key.mpr m)
    rw [keys, List.map_append]
    refine List.nodup_append.mpr ⟨h, by simp, fun a ha b hb => ?_⟩
    have : b = w := by simpa using hb
    rw [this]
    intro e
    rw [e] at ha
    exact hn' ha
theorem nodup_puts : ∀ (ps : Ctl) {cs : Ctl}, (keys cs).Nodup → (keys (puts cs ps)).Nodup
  | [], _, h => h
  | p :: r, _, h => nodup_puts r (nodup_put h p.1 p.2)
theorem nodup_del {cs : Ctl} (h : (keys cs).Nodup) (w : Int) : (keys (del cs w)).Nodup := by
  unfold del keys
  exact List.Nodup.sublist (List.Sublist.map _ List.filter_sublist) h

/-! ### gates -/
structure GOk (W : Int) (g : Gate) : Prop where
  t0 : 0 ≤ g.1
  tW : g.1 < W
  asc : Asc g.2
  ctl : ∀ c ∈ g.2, 0 ≤ c.1 ∧ c.1 < W ∧ c.1 ≠ g.1 ∧ (c.2 = 0 ∨ c.2 = 1)
theorem GOk.look {W : Int} {g : Gate} (h : GOk W g) {w v : Int} (e : look g.2 w = some v) : 0 ≤ w ∧ w < W ∧ w ≠ g.1 ∧ (v = 0 ∨ v = 1) := h.ctl _ (look_mem e)
theorem GOk.noT {W : Int} {g : Gate} (h : GOk W g) : Bk.look g.2 g.1 = none := look_none fun c m => (h.ctl c m).2.2.1
theorem gok_of {W : Int} {t : Int} {cs : Ctl} (h0 : 0 ≤ t) (hW : t < W) (ha : Asc cs) (h : ∀ w v, Bk.look cs w = some v → 0 ≤ w ∧ w < W ∧ w ≠ t ∧ (v = 0 ∨ v = 1)) : GOk W (t, cs) :=
  ⟨h0, hW, ha, fun c m => h c.1 c.2 (look_of ha m)⟩

def conflict (f s : Gate) : Bool := s.2.any fun c => match look f.2 c.1 with
  | some v => !decide (v = c.2)
  | none => false
def exch (f s : Gate) : Bool := (!has s.2 f.1 && !has f.2 s.1) || conflict f s
theorem conflict_iff {f s : Gate} (hs : Asc s.2) : conflict f s = true ↔ ∃ w a b, look f.2 w = some a ∧ look s.2 w = some b ∧ a ≠ b := by
  unfold conflict
  rw [List.any_eq_true]
  constructor
  · rintro ⟨c, m, h⟩
    cases q : look f.2 c.1 with
    | none => rw [q] at h; cases h
    | some v =>
      rw [q] at h
      exact ⟨c.1, v, c.2, q, look_of hs m, by simpa using h⟩
  · rintro ⟨w, a, b, h1, h2, h3⟩
    refine ⟨(w, b), look_mem h2, ?_⟩
    show (match look f.2 w with | some v => !decide (v = b) | none => false) = true
    rw [h1]
    simpa using h3
theorem conflict_swap {f s : Gate} (hf : Asc f.2) (hs : Asc s.2) : conflict f s = conflict s f := by
  have a := conflict_iff (f := f) hs
  have b := conflict_iff (f := s) hf
  have ab : conflict f s = true ↔ conflict s f = true := by
    rw [a, b]
    constructor
    · rintro ⟨w, x, y, h1, h2, h3⟩; exact ⟨w, y, x, h2, h1, fun e => h3 e.symm⟩
    · rintro ⟨w, x, y, h1, h2, h3⟩; exact ⟨w, y, x, h2, h1, fun e => h3 e.symm⟩
  cases h1 : conflict f s <;> cases h2 : conflict s f <;> simp_all

/-! ### merging -/
def lackOf (one two : Ctl) : List Int := (keys one).filter fun w => !has two w
def othersOf (one two : Ctl) : List Int := (keys one).filter fun w => has two w && !decide (look one w = look two w)
def bigOf (f s : Gate) : Ctl := if f.2.length < s.2.length then s.2 else f.2
def smallOf (f s : Gate) : Ctl := if f.2.length < s.2.length then f.2 else s.2
def merged (f s : Gate) : Option Gate :=
  if f.1 ≠ s.1 then none
  else if (bigOf f s).length = (smallOf f s).length ∧ lackOf (bigOf f s) (smallOf f s) = [] ∧ (othersOf (bigOf f s) (smallOf f s)).length = 1 then
    some (f.1, srt (del (bigOf f s) ((othersOf (bigOf f s) (smallOf f s)).headD 0)))
  else if (bigOf f s).length = (smallOf f s).length + 1 ∧ (lackOf (bigOf f s) (smallOf f s)).length = 1 ∧ othersOf (bigOf f s) (smallOf f s) = [] then
    some (f.1, srt (put (bigOf f s) ((lackOf (bigOf f s) (smallOf f s)).headD 0) (1 - (look (bigOf f s) ((lackOf (bigOf f s) (smallOf f s)).headD 0)).getD 0)))
  else none
/-- the law's own way -/
def mergedL (f s : Gate) : Option Gate :=
  if f.1 ≠ s.1 then none
  else if lackOf (smallOf f s) (bigOf f s) ≠ [] then none
  else if ((keys (smallOf f s)).filter fun w => !decide (look (smallOf f s) w = look (bigOf f s) w)).length = 1 ∧ lackOf (bigOf f s) (smallOf f s) = [] then
    some (f.1, srt (del (bigOf f s) (((keys (smallOf f s)).filter fun w => !decide (look (smallOf f s) w = look (bigOf f s) w)).headD 0)))
  else if ((keys (smallOf f s)).filter fun w => !decide (look (smallOf f s) w = look (bigOf f s) w)) = [] ∧ (lackOf (bigOf f s) (smallOf f s)).length = 1 then
    some (f.1, srt (put (bigOf f s) ((lackOf (bigOf f s) (smallOf f s)).headD 0) (1 - (look (bigOf f s) ((lackOf (bigOf f s) (smallOf f s)).headD 0)).getD 0)))
  else none

theorem len_le : ∀ {a b : List Int}, a.Nodup → (∀ x ∈ a, x ∈ b) → a.length ≤ b.length
  | [], _, _, _ => Nat.zero_le _
  | x :: a, b, h, hs => by
    have h1 := (List.nodup_cons.mp h).1
    have h2 := (List.nodup_cons.mp h).2
    have hx : x ∈ b := hs x List.mem_cons_self
    have ih := len_le (a := a) (b := b.erase x) h2 fun y hy => (List.mem_erase_of_ne (fun e => h1 (by rw [← e]; exact hy))).mpr (hs y (List.mem_cons_of_mem _ hy))
    have e := List.length_erase_of_mem hx
    have p : 0 < b.length := List.length_pos_of_mem hx
    rw [List.length_cons]
    omega
theorem sub_eq {a b : List Int} (ha : a.Nodup) (hs : ∀ x ∈ a, x ∈ b) (hl : b.length ≤ a.length) : ∀ y ∈ b, y ∈ a := by
  intro y hy
  by_cases m : y ∈ a
  · exact m
  · have := len_le (a := y :: a) (b := b) (List.nodup_cons.mpr ⟨m, ha⟩) fun x hx => by
      rcases List.mem_cons.mp hx with e | hx
      · rw [e]; exact hy
      · exact hs x hx
    rw [List.length_cons] at this
    omega
theorem asc_list_uniq : ∀ {a b : List Int}, a.Pairwise (· < ·) → b.Pairwise (· < ·) → (∀ x, x ∈ a ↔ x ∈ b) → a = b
  | [], [], _, _, _ => rfl
  | [], y :: b, _, _, h => by have := (h y).mpr List.mem_cons_self; cases this
  | x :: a, [], _, _, h => by have := (h x).mp List.mem_cons_self; cases this
  | x :: a, y :: b, ha, hb, h => by
    have a1 := (List.pairwise_cons.mp ha).1
    have a2 := (List.pairwise_cons.mp ha).2
    have b1 := (List.pairwise_cons.mp hb).1
    have b2 := (List.pairwise_cons.mp hb).2
    have e : x = y := by
      have h1 := (h x).mp List.mem_cons_self
      have h2 := (h y).mpr List.mem_cons_self
      rcases List.mem_cons.mp h1 with e | m1
      · exact e
      · rcases List.mem_cons.mp h2 with e | m2
        · exact e.symm
        · have := b1 x m1
          have := a1 y m2
          omega
    subst e
    have ih := asc_list_uniq a2 b2 fun z => by
      constructor
      · intro m
        rcases List.mem_cons.mp ((h z).mp (List.mem_cons_of_mem _ m)) with e | m'
        · have := a1 z m; omega
        · exact m'
      · intro m
        rcases List.mem_cons.mp ((h z).mpr (List.mem_cons_of_mem _ m)) with e | m'
        · have := b1 z m; omega
        · exact m'
    rw [ih]
theorem lack_nil {one two : Ctl} : lackOf one two = [] ↔ ∀ x ∈ keys one, x ∈ keys two := by
  unfold lackOf
  rw [List.filter_eq_nil_iff]
  constructor
  · intro h x hx
    have := h x hx
    exact has_key.mp (by simpa using this)
  · intro h x hx
    simpa using has_key.mpr (h x hx)
theorem lack_len (one two : Ctl) : ((keys one).filter fun w => has two w).length + (lackOf one two).length = one.length := by
  unfold lackOf
  have h : ∀ l : List Int, (l.filter fun w => has two w).length + (l.filter fun w => !has two w).length = l.length := by
    intro l
    induction l with
    | nil => rfl
    | cons x r ih =>
      rw [List.filter_cons, List.filter_cons]
      cases has two x <;> simp <;> omega
  have := h (keys one)
  rw [List.length_map] at this
  exact this
/-- the two ways to merge agree -/
theorem mergedL_eq {f s : Gate} (hf : Asc f.2) (hs : Asc s.2) : mergedL f s = merged f s := by
  unfold mergedL merged
  by_cases ht : f.1 ≠ s.1
  · rw [if_pos ht, if_pos ht]
  · rw [if_neg ht, if_neg ht]
    have hb : Asc (bigOf f s) := by unfold bigOf; split <;> assumption
    have hm : Asc (smallOf f s) := by unfold smallOf; split <;> assumption
    have hl : (smallOf f s).length ≤ (bigOf f s).length := by unfold smallOf bigOf; split <;> omega
    generalize bigOf f s = one at *
    generalize smallOf f s = two at *
    have n1 := asc_nodup hb
    have n2 := asc_nodup hm
    have l1 : (keys one).length = one.length := List.length_map ..
    have l2 : (keys two).length = two.length := List.length_map ..
    have ll := lack_len one two
    have nf : ((keys one).filter fun w => has two w).Nodup := n1.sublist List.filter_sublist
    have fsub : ∀ x ∈ (keys one).filter fun w => has two w, x ∈ keys two := fun x hx => has_key.mp (List.mem_filter.mp hx).2
    have fle := len_le nf fsub
    by_cases hsub : lackOf two one ≠ []
    · rw [if_pos hsub]
      have hno : ¬ ∀ x ∈ keys two, x ∈ keys one := fun q => hsub (lack_nil.mpr q)
      have flt : ((keys one).filter fun w => has two w).length < two.length := by
        by_cases q : ((keys one).filter fun w => has two w).length < two.length
        · exact q
        · exfalso
          refine hno fun y hy => ?_
          have := sub_eq nf fsub (by omega) y hy
          exact (List.mem_filter.mp this).1
      rw [if_neg, if_neg]
      · rintro ⟨e1, e2, _⟩
        omega
      · rintro ⟨e1, e2, _⟩
        rw [e2, List.length_nil] at ll
        omega
    · rw [if_neg hsub]
      have hsub' : ∀ x ∈ keys two, x ∈ keys one := lack_nil.mp (by
        by_cases q : lackOf two one = []
        · exact q
        · exact absurd q hsub)
      have sub2 : ∀ x ∈ keys two, x ∈ (keys one).filter fun w => has two w := fun x hx => List.mem_filter.mpr ⟨hsub' x hx, has_key.mpr hx⟩
      have fge := len_le n2 sub2
      -- what stands apart, seen from both sides
      have ap : ((keys two).filter fun w => !decide (look two w = look one w)) = othersOf one two := by
        unfold othersOf
        refine asc_list_uniq ((asc_keys hm).sublist List.filter_sublist) ((asc_keys hb).sublist List.filter_sublist) fun x => ?_
        rw [List.mem_filter, List.mem_filter]
        constructor
        · rintro ⟨m, q⟩
          refine ⟨hsub' x m, ?_⟩
          have hx := has_key.mpr m
          have q' : ¬ look two x = look one x := by simpa using q
          have q2 : ¬ look one x = look two x := fun e => q' e.symm
          simp [hx, q2]
        · rintro ⟨m, q⟩
          have q1 : has two x = true ∧ ¬ look one x = look two x := by simpa using q
          refine ⟨has_key.mp q1.1, ?_⟩
          have q2 : ¬ look two x = look one x := fun e => q1.2 e.symm
          simp [q2]
      rw [ap]
      have e1 : ((othersOf one two).length = 1 ∧ lackOf one two = []) ↔ (one.length = two.length ∧ lackOf one two = [] ∧ (othersOf one two).length = 1) := by
        constructor
        · rintro ⟨a, b⟩
          refine ⟨?_, b, a⟩
          rw [b, List.length_nil] at ll
          omega
        · rintro ⟨_, b, a⟩
          exact ⟨a, b⟩
      have e2 : (othersOf one two = [] ∧ (lackOf one two).length = 1) ↔ (one.length = two.length + 1 ∧ (lackOf one two).length = 1 ∧ othersOf one two = []) := by
        constructor
        · rintro ⟨a, b⟩
          exact ⟨by omega, b, a⟩
        · rintro ⟨_, b, a⟩
          exact ⟨a, b⟩
      simp only [e1, e2]
/-- what merged says, by look -/
theorem merged_look {f s m : Gate} (hf : Asc f.2) (hs : Asc s.2) (h : merged f s = some m) : f.1 = s.1 ∧ m.1 = f.1 ∧ Asc m.2 ∧ ∃ p q : Ctl, ((p = f.2 ∧ q = s.2) ∨ (p = s.2 ∧ q = f.2)) ∧ ∃ w a,
    look p w = some a ∧ (∀ u, u ≠ w → look p u = look q u ∧ look m.2 u = look p u) ∧ ((∃ b, look q w = some b ∧ a ≠ b ∧ look m.2 w = none) ∨ (look q w = none ∧ look m.2 w = some (1 - a))) := by
  rw [← mergedL_eq hf hs] at h
  unfold mergedL at h
  split at h
  · cases h
  · rename_i ht
    have ht' : f.1 = s.1 := by
      by_cases e : f.1 = s.1
      · exact e
      · exact absurd e ht
    split at h
    · cases h
    · rename_i hsub
      have pq : ((bigOf f s = f.2 ∧ smallOf f s = s.2) ∨ (bigOf f s = s.2 ∧ smallOf f s = f.2)) := by
        unfold bigOf smallOf
        split
        · exact .inr ⟨rfl, rfl⟩
        · exact .inl ⟨rfl, rfl⟩
      generalize hone : bigOf f s = one at *
      generalize htwo : smallOf f s = two at *
      have hsub' : ∀ x ∈ keys two, x ∈ keys one := lack_nil.mp (by
        by_cases q : lackOf two one = []
        · exact q
        · exact absurd q hsub)
      split at h
      · rename_i hc
        obtain ⟨c1, c2⟩ := hc
        have em := Option.some.inj h
        subst em
        obtain ⟨w, ew⟩ := List.length_eq_one_iff.mp c1
        rw [ew]
        have hw : w ∈ (keys two).filter fun w => !decide (look two w = look one w) := by rw [ew]; exact List.mem_singleton.mpr rfl
        obtain ⟨hw1, hw2⟩ := List.mem_filter.mp hw
        obtain ⟨b, hb⟩ := Option.isSome_iff_exists.mp (has_key.mpr hw1)
        obtain ⟨a, ha⟩ := Option.isSome_iff_exists.mp (has_key.mpr (hsub' w hw1))
        refine ⟨ht', rfl, asc_srt _, one, two, pq, w, a, ha, fun u hu => ⟨?_, ?_⟩, .inl ⟨b, hb, ?_, ?_⟩⟩
        · cases q1 : look two u with
          | none =>
            cases q2 : look one u with
            | none => rfl
            | some z =>
              have := lack_nil.mp c2 u (has_key.mp (by simp [has, q2]))
              have := has_key.mpr this
              simp [has, q1] at this
          | some z =>
            by_cases e : look one u = some z
            · exact e
            · exfalso
              have : u ∈ (keys two).filter fun w => !decide (look two w = look one w) := List.mem_filter.mpr ⟨has_key.mp (by simp [has, q1]), by rw [q1, decide_eq_false (fun e' => e e'.symm)]; rfl⟩
              rw [ew] at this
              exact hu (List.mem_singleton.mp this)
        · show look (srt (del one (([w] : List Int).headD 0))) u = look one u
          rw [look_srt, look_del]
          exact if_neg fun e => hu (Eq.symm e)
        · intro e
          rw [hb, ha, e] at hw2
          simp at hw2
        · show look (srt (del one (([w] : List Int).headD 0))) w = none
          rw [look_srt, look_del]
          simp
      · split at h
        · rename_i hc
          obtain ⟨c1, c2⟩ := hc
          have em := Option.some.inj h
          subst em
          obtain ⟨w, ew⟩ := List.length_eq_one_iff.mp c2
          rw [ew]
          have hw : w ∈ lackOf one two := by rw [ew]; exact List.mem_singleton.mpr rfl
          obtain ⟨hw1, hw2⟩ := List.mem_filter.mp hw
          obtain ⟨a, ha⟩ := Option.isSome_iff_exists.mp (has_key.mpr hw1)
          have hn : look two w = none := has_no.mp (by simpa using hw2)
          refine ⟨ht', rfl, asc_srt _, one, two, pq, w, a, ha, fun u hu => ⟨?_, ?_⟩, .inr ⟨hn, ?_⟩⟩
          · cases q1 : look two u with
            | none =>
              cases q2 : look one u with
              | none => rfl
              | some z =>
                have : u ∈ lackOf one two := List.mem_filter.mpr ⟨has_key.mp (by simp [has, q2]), by simp [has, q1]⟩
                rw [ew] at this
                exact absurd (List.mem_singleton.mp this) hu
            | some z =>
              by_cases e : look one u = some z
              · exact e
              · exfalso
                have : u ∈ (keys two).filter fun w => !decide (look two w = look one w) := List.mem_filter.mpr ⟨has_key.mp (by simp [has, q1]), by rw [q1, decide_eq_false (fun e' => e e'.symm)]; rfl⟩
                rw [c1] at this
                cases this
          · show look (srt (put one (([w] : List Int).headD 0) _)) u = look one u
            rw [look_srt, look_put, if_neg]
            exact fun e => hu (Eq.symm e)
          · show look (srt (put one w (1 - (look one w).getD 0))) w = some (1 - a)
            rw [look_srt, look_put, if_pos rfl, ha]
            rfl
        · cases h

/-! ### passing -/
def passed (f s : Gate) : Option Gate :=
  if !has s.2 f.1 || has f.2 s.1 || conflict f s then none else some (s.1, srt (puts (del s.2 f.1) f.2))
theorem passed_look {f s m : Gate} (hf : Asc f.2) (hs : Asc s.2) (h : passed f s = some m) : m.1 = s.1 ∧ Asc m.2 ∧ (∃ v, look s.2 f.1 = some v) ∧ look f.2 s.1 = none ∧ (∀ w a b, look f.2 w = some a → look s.2 w = some b → a = b) ∧
    ∀ w, look m.2 w = (look f.2 w).or (if f.1 = w then none else look s.2 w) := by
  unfold passed at h
  split at h
  · cases h
  · rename_i hc
    have hc' : (has s.2 f.1 = true ∧ has f.2 s.1 = false) ∧ conflict f s = false := by simpa using hc
    have em := Option.some.inj h
    subst em
    refine ⟨rfl, asc_srt _, Option.isSome_iff_exists.mp hc'.1.1, has_no.mp hc'.1.2, fun w a b h1 h2 => ?_, fun w => ?_⟩
    · by_cases e : a = b
      · exact e
      · have := (conflict_iff (f := f) hs).mpr ⟨w, a, b, h1, h2, e⟩
        rw [hc'.2] at this
        cases this
    · show look (srt (puts (del s.2 f.1) f.2)) w = _
      rw [look_srt, look_puts w f.2 _ hf, look_del]

/-! ### splitting -/
def splitG (g : Gate) (w : Int) : Option (List Gate) := if w = g.1 ∨ has g.2 w = true then none else some [(g.1, ins (w, 0) g.2), (g.1, ins (w, 1) g.2)]

/-! ### bits -/
def at' (b : List Int) (w : Int) : Int := b.getD w.toNat 0
def fire (g : Gate) (b : List Int) : Bool := g.2.all fun c => decide (at' b c.1 = c.2)
def step1 (b : List Int) (g : Gate) : List Int := if fire g b then b.set g.1.toNat (1 - at' b g.1) else b
def runL (gs : List Gate) (b : List Int) : List Int := gs.foldl step1 b
structure BOk (W : Int) (b : List Int) : Prop where
  len : (b.length : Int) = W
  bit : ∀ w, at' b w = 0 ∨ at' b w = 1
theorem fire_iff {g : Gate} (h : Asc g.2) {b : List Int} : fire g b = true ↔ ∀ w v, look g.2 w = some v → at' b w = v := by
  unfold fire
  rw [List.all_eq_true]
  constructor
  · intro q w v e
    simpa using q _ (look_mem e)
  · intro q c m
    simpa using q c.1 c.2 (look_of h m)
theorem step1_len (b : List Int) (g : Gate) : (step1 b g).length = b.length := by
  unfold step1
  split <;> simp
theorem step1_at {W : Int} {b : List Int} {g : Gate} (hb : BOk W b) (hg : GOk W g) {w : Int} (hw : 0 ≤ w) : at' (step1 b g) w = if w = g.1 ∧ fire g b = true then 1 - at' b w else at' b w := by
  unfold step1
  have hl := hb.len
  have t0 := hg.t0
  have tW := hg.tW
  by_cases hf : fire g b = true
  · rw [if_pos hf]
    by_cases e : w = g.1
    · subst e
      rw [if_pos ⟨rfl, hf⟩]
      unfold at'
      rw [List.getD_eq_getElem?_getD, List.getElem?_set_self (by omega)]
      rfl
    · rw [if_neg (fun z => e z.1)]
      unfold at'
      rw [List.getD_eq_getElem?_getD, List.getElem?_set_ne (by omega), ← List.getD_eq_getElem?_getD]
  · rw [if_neg hf, if_neg (fun z => hf z.2)]
theorem at_neg {b : List Int} {w : Int} (h : w < 0) : at' b w = at' b 0 := by
  unfold at'
  rw [show w.toNat = (0 : Int).toNat by omega]
theorem step1_ok {W : Int} {b : List Int} {g : Gate} (hb : BOk W b) (hg : GOk W g) : BOk W (step1 b g) := by
  have h0 : ∀ w, 0 ≤ w → at' (step1 b g) w = 0 ∨ at' (step1 b g) w = 1 := fun w hw => by
    rw [step1_at hb hg hw]
    have := hb.bit w
    split <;> omega
  refine ⟨by rw [step1_len]; exact hb.len, fun w => ?_⟩
  by_cases hw : 0 ≤ w
  · exact h0 w hw
  · rw [at_neg (by omega)]
    exact h0 0 (by omega)
theorem runL_ok {W : Int} : ∀ {gs : List Gate} {b : List Int}, BOk W b → (∀ g ∈ gs, GOk W g) → BOk W (runL gs b)
  | [], _, h, _ => h
  | g :: r, b, h, hg => runL_ok (gs := r) (step1_ok h (hg g List.mem_cons_self)) fun x m => hg x (List.mem_cons_of_mem _ m)
theorem runL_app (a c : List Gate) (b : List Int) : runL (a ++ c) b = runL c (runL a b) := List.foldl_append ..
theorem bits_ext {a b : List Int} (hl : a.length = b.length) (h : ∀ w, 0 ≤ w → at' a w = at' b w) : a = b := by
  refine List.ext_getElem hl fun i h1 h2 => ?_
  have := h (i : Int) (by omega)
  unfold at' at this
  rw [List.getD_eq_getElem?_getD, List.getD_eq_getElem?_getD, Int.toNat_natCast, List.getElem?_eq_getElem h1, List.getElem?_eq_getElem h2] at this
  exact this
theorem fire_frame {W : Int} {b : List Int} {g h : Gate} (hb : BOk W b) (hg : GOk W g) (hh : GOk W h) (n : look h.2 g.1 = none) : fire h (step1 b g) = fire h b := by
  have key : fire h (step1 b g) = true ↔ fire h b = true := by
    rw [fire_iff hh.asc, fire_iff hh.asc]
    have e : ∀ w v, look h.2 w = some v → at' (step1 b g) w = at' b w := fun w v q => by
      rw [step1_at hb hg (hh.look q).1, if_neg]
      rintro ⟨z, _⟩
      rw [z, n] at q
      cases q
    constructor
    · intro a w v q; rw [← e w v q]; exact a w v q
    · intro a w v q; rw [e w v q]; exact a w v q
  cases h1 : fire h (step1 b g) <;> cases h2 : fire h b <;> simp_all
theorem run_cancel {W : Int} {b : List Int} {g : Gate} (hb : BOk W b) (hg : GOk W g) : runL [g, g] b = b := by
  show step1 (step1 b g) g = b
  refine bits_ext (by rw [step1_len, step1_len]) fun w hw => ?_
  rw [step1_at (step1_ok hb hg) hg hw, fire_frame hb hg hg hg.noT, step1_at hb hg hw]
  split <;> omega
theorem run_exch {W : Int} {b : List Int} {f s : Gate} (hb : BOk W b) (hf : GOk W f) (hs : GOk W s) (h : exch f s = true) : runL [s, f] b = runL [f, s] b := by
  show step1 (step1 b s) f = step1 (step1 b f) s
  unfold exch at h
  refine bits_ext (by simp only [step1_len]) fun w hw => ?_
  rw [step1_at (step1_ok hb hs) hf hw, step1_at (step1_ok hb hf) hs hw, step1_at hb hs hw, step1_at hb hf hw]
  have h' : (has s.2 f.1 = false ∧ has f.2 s.1 = false) ∨ conflict f s = true := by simpa using h
  rcases h' with ⟨n1, n2⟩ | hc
  · rw [fire_frame hb hs hf (has_no.mp n2), fire_frame hb hf hs (has_no.mp n1)]
    have turn : ∀ (P Q : Prop) [Decidable P] [Decidable Q] (x : Int), (if P then 1 - (if Q then 1 - x else x) else if Q then 1 - x else x) = if Q then 1 - (if P then 1 - x else x) else if P then 1 - x else x := by
      intro P Q _ _ x
      by_cases h1 : P <;> by_cases h2 : Q <;> simp [h1, h2]
    exact turn _ _ _
  · obtain ⟨u, x, y, h1, h2, hxy⟩ := (conflict_iff hs.asc).mp hc
    have uf := hf.look h1
    have us := hs.look h2
    -- u stays under both gates
    have e1 : at' (step1 b f) u = at' b u := by rw [step1_at hb hf uf.1, if_neg (fun z => uf.2.2.1 z.1)]
    have e2 : at' (step1 b s) u = at' b u := by rw [step1_at hb hs us.1, if_neg (fun z => us.2.2.1 z.1)]
    by_cases q : at' b u = x
    · have n1 : ¬ fire s b = true := fun z => hxy (q.symm.trans ((fire_iff hs.asc).mp z u y h2))
      have n2 : ¬ fire s (step1 b f) = true := fun z => hxy (q.symm.trans (e1.symm.trans ((fire_iff hs.asc).mp z u y h2)))
      have same : step1 b s = b := by unfold step1; rw [if_neg n1]
      rw [same]
      simp [n1, n2]
    · have n1 : ¬ fire f b = true := fun z => q ((fire_iff hf.asc).mp z u x h1)
      have n2 : ¬ fire f (step1 b s) = true := fun z => q (e2.symm.trans ((fire_iff hf.asc).mp z u x h1))
      have same : step1 b f = b := by unfold step1; rw [if_neg n1]
      rw [same]
      simp [n1, n2]
theorem merged_ok {W : Int} {f s m : Gate} (hf : GOk W f) (hs : GOk W s) (h : merged f s = some m) : GOk W m := by
  obtain ⟨et, em, ha, p, q, pq, w, a, hp, hu, hw⟩ := merged_look hf.asc hs.asc h
  have P : ∀ u v, look p u = some v → 0 ≤ u ∧ u < W ∧ u ≠ f.1 ∧ (v = 0 ∨ v = 1) := by
    rcases pq with ⟨rfl, rfl⟩ | ⟨rfl, rfl⟩
    · exact fun u v e => hf.look e
    · rw [et]; exact fun u v e => hs.look e
  have : GOk W (f.1, m.2) := gok_of hf.t0 hf.tW ha fun u v e => by
    by_cases z : u = w
    · subst z
      have := P u a hp
      rcases hw with ⟨b, _, _, q⟩ | ⟨_, q⟩
      · rw [q] at e; cases e
      · rw [q] at e
        have := Option.some.inj e
        omega
    · rw [(hu u z).2] at e
      exact P u v e
  rw [← em] at this
  exact this
theorem run_merged {W : Int} {b : List Int} {f s m : Gate} (hb : BOk W b) (hf : GOk W f) (hs : GOk W s) (h : merged f s = some m) : runL [m] b = runL [f, s] b := by
  have hm := merged_ok hf hs h
  obtain ⟨et, em, ha, p, q, pq, w, a, hp, hu, hw⟩ := merged_look hf.asc hs.asc h
  show step1 b m = step1 (step1 b f) s
  refine bits_ext (by simp only [step1_len]) fun u hu0 => ?_
  have nfs : look s.2 f.1 = none := by rw [et]; exact hs.noT
  rw [step1_at (step1_ok hb hf) hs hu0, fire_frame hb hf hs nfs, step1_at hb hf hu0, step1_at hb hm hu0, em, ← et]
  -- the three tests
  have cp : (∀ x v, look p x = some v → at' b x = v) ↔ (∀ x v, x ≠ w → look p x = some v → at' b x = v) ∧ at' b w = a := by
    constructor
    · intro z; exact ⟨fun x v _ e => z x v e, z w a hp⟩
    · rintro ⟨z1, z2⟩ x v e
      by_cases ex : x = w
      · subst ex; rw [hp] at e; rw [← Option.some.inj e]; exact z2
      · exact z1 x v ex e
  have cq0 : (∀ x v, x ≠ w → look q x = some v → at' b x = v) ↔ (∀ x v, x ≠ w → look p x = some v → at' b x = v) :=
    ⟨fun z x v n e => z x v n (by rw [← (hu x n).1]; exact e), fun z x v n e => z x v n (by rw [(hu x n).1]; exact e)⟩
  have cm0 : (∀ x v, x ≠ w → look m.2 x = some v → at' b x = v) ↔ (∀ x v, x ≠ w → look p x = some v → at' b x = v) :=
    ⟨fun z x v n e => z x v n (by rw [(hu x n).2]; exact e), fun z x v n e => z x v n (by rw [← (hu x n).2]; exact e)⟩
  have bw := hb.bit w
  have V : (a = 0 ∨ a = 1) ∧ ∀ c, look q w = some c → c = 0 ∨ c = 1 := by
    rcases pq with ⟨rfl, rfl⟩ | ⟨rfl, rfl⟩
    · exact ⟨(hf.look hp).2.2.2, fun c e => (hs.look e).2.2.2⟩
    · exact ⟨(hs.look hp).2.2.2, fun c e => (hf.look e).2.2.2⟩
  have split2 : ∀ {cs : Ctl}, (∀ x v, look cs x = some v → at' b x = v) ↔ (∀ x v, x ≠ w → look cs x = some v → at' b x = v) ∧ ∀ v, look cs w = some v → at' b w = v := fun {cs} =>
    ⟨fun z => ⟨fun x v _ e => z x v e, fun v e => z w v e⟩, fun z x v e => by
      by_cases ex : x = w
      · subst ex; exact z.2 v e
      · exact z.1 x v ex e⟩
  have key : (fire m b = true ↔ ((∀ x v, look p x = some v → at' b x = v) ∧ ¬ (∀ x v, look q x = some v → at' b x = v)) ∨ (¬ (∀ x v, look p x = some v → at' b x = v) ∧ (∀ x v, look q x = some v → at' b x = v))) := by
    rw [fire_iff hm.asc, cp, split2 (cs := q), cq0, split2 (cs := m.2), cm0]
    generalize (∀ x v, x ≠ w → look p x = some v → at' b x = v) = R
    rcases hw with ⟨c, hc, hne, hmw⟩ | ⟨hn, hmw⟩
    · have Vc := V.2 c hc
      rw [hc, hmw]
      have e1 : (∀ v : Int, some c = some v → at' b w = v) ↔ at' b w = c := ⟨fun z => z c rfl, fun z v e => by rw [← Option.some.inj e]; exact z⟩
      have e2 : (∀ v : Int, (none : Option Int) = some v → at' b w = v) ↔ True := ⟨fun _ => trivial, fun _ v e => by cases e⟩
      rw [e1, e2]
      have : at' b w = a ∧ ¬ at' b w = c ∨ ¬ at' b w = a ∧ at' b w = c := by omega
      constructor
      · rintro ⟨r, _⟩
        rcases this with ⟨x, y⟩ | ⟨x, y⟩
        · exact .inl ⟨⟨r, x⟩, fun z => y z.2⟩
        · exact .inr ⟨fun z => x z.2, r, y⟩
      · rintro (⟨⟨r, _⟩, _⟩ | ⟨_, r, _⟩) <;> exact ⟨r, trivial⟩
    · rw [hn, hmw]
      have e1 : (∀ v : Int, some (1 - a) = some v → at' b w = v) ↔ at' b w = 1 - a := ⟨fun z => z _ rfl, fun z v e => by rw [← Option.some.inj e]; exact z⟩
      have e2 : (∀ v : Int, (none : Option Int) = some v → at' b w = v) ↔ True := ⟨fun _ => trivial, fun _ v e => by cases e⟩
      rw [e1, e2]
      have Va := V.1
      have : at' b w = 1 - a ↔ ¬ at' b w = a := by omega
      rw [this]
      constructor
      · rintro ⟨r, x⟩
        exact .inr ⟨fun z => x z.2, r, trivial⟩
      · rintro (⟨⟨r, x⟩, y⟩ | ⟨x, r, _⟩)
        · exact absurd ⟨r, trivial⟩ y
        · exact ⟨r, fun z => x ⟨r, z⟩⟩
  have key2 : fire m b = true ↔ (fire f b = true ∧ ¬ fire s b = true) ∨ (¬ fire f b = true ∧ fire s b = true) := by
    rw [key, fire_iff hf.asc, fire_iff hs.asc]
    rcases pq with ⟨rfl, rfl⟩ | ⟨rfl, rfl⟩
    · exact Iff.rfl
    · constructor
      · rintro (⟨x, y⟩ | ⟨x, y⟩)
        · exact .inr ⟨y, x⟩
        · exact .inl ⟨y, x⟩
      · rintro (⟨x, y⟩ | ⟨x, y⟩)
        · exact .inr ⟨y, x⟩
        · exact .inl ⟨y, x⟩
  by_cases z : u = f.1
  · cases h1 : fire f b <;> cases h2 : fire s b <;> cases h3 : fire m b <;> simp [h1, h2, h3] at key2 <;> simp [z] <;> omega
  · simp [z]
theorem split_ok {W : Int} {g h : Gate} {w : Int} (hg : GOk W g) (h0 : 0 ≤ w) (hW : w < W) {gs : List Gate} (hs : splitG g w = some gs) (m : h ∈ gs) : GOk W h := by
  unfold splitG at hs
  split at hs
  · cases hs
  · rename_i hn
    have e := Option.some.inj hs
    subst e
    have hne : w ≠ g.1 := fun z => hn (.inl z)
    have mk : ∀ x : Int, x = 0 ∨ x = 1 → GOk W (g.1, ins (w, x) g.2) := fun x hx => gok_of hg.t0 hg.tW (asc_ins hg.asc) fun u v e => by
      rw [look_ins] at e
      by_cases z : w = u
      · rw [if_pos z] at e
        have e' : x = v := Option.some.inj e
        omega
      · rw [if_neg z] at e
        exact hg.look e
    rcases List.mem_cons.mp m with e | m
    · rw [e]; exact mk 0 (.inl rfl)
    · rw [List.mem_singleton.mp m]; exact mk 1 (.inr rfl)
theorem run_split {W : Int} {b : List Int} {g : Gate} {w : Int} (hb : BOk W b) (hg : GOk W g) (h0 : 0 ≤ w) (hW : w < W) {gs : List Gate} (hs : splitG g w = some gs) : runL gs b = runL [g] b := by
  have oks := fun h m => split_ok (h := h) hg h0 hW hs m
  unfold splitG at hs
  split at hs
  · cases hs
  · rename_i hn
    have e := Option.some.inj hs
    subst e
    have hnl : look g.2 w = none := has_no.mp (by
      cases q : has g.2 w with
      | false => rfl
      | true => exact absurd (.inr q) hn)
    have k0 := oks _ List.mem_cons_self
    have k1 := oks _ (List.mem_cons_of_mem _ List.mem_cons_self)
    show step1 (step1 b (g.1, ins (w, 0) g.2)) (g.1, ins (w, 1) g.2) = step1 b g
    refine bits_ext (by simp only [step1_len]) fun u hu0 => ?_
    rw [step1_at (step1_ok hb k0) k1 hu0, fire_frame hb k0 k1 k1.noT, step1_at hb k0 hu0, step1_at hb hg hu0]
    have cx : ∀ x : Int, (x = 0 ∨ x = 1) → (fire (g.1, ins (w, x) g.2) b = true ↔ fire g b = true ∧ at' b w = x) := fun x hx => by
      rw [fire_iff (asc_ins hg.asc), fire_iff hg.asc]
      constructor
      · intro z
        refine ⟨fun y v e => z y v ?_, z w x ?_⟩
        · show look (ins (w, x) g.2) y = some v
          rw [look_ins, if_neg]
          · exact e
          · rintro rfl
            have e' : look g.2 w = some v := e
            rw [hnl] at e'
            cases e'
        · show look (ins (w, x) g.2) w = some x
          rw [look_ins, if_pos rfl]
      · rintro ⟨z1, z2⟩ y v e
        have e : look (ins (w, x) g.2) y = some v := e
        rw [look_ins] at e
        by_cases q : w = y
        · rw [if_pos q] at e
          rw [← q, z2]
          exact Option.some.inj e
        · rw [if_neg q] at e
          exact z1 y v e
    have c0 := cx 0 (.inl rfl)
    have c1 := cx 1 (.inr rfl)
    have bw := hb.bit w
    by_cases z : u = g.1
    · cases h1 : fire (g.1, ins (w, 0) g.2) b <;> cases h2 : fire (g.1, ins (w, 1) g.2) b <;> cases h3 : fire g b <;> simp [h1, h2, h3] at c0 c1 <;> simp [z] <;> omega
    · simp [z]
theorem passed_ok {W : Int} {f s m : Gate} (hf : GOk W f) (hs : GOk W s) (h : passed f s = some m) : GOk W m := by
  obtain ⟨em, ha, _, hn, _, hl⟩ := passed_look hf.asc hs.asc h
  have : GOk W (s.1, m.2) := gok_of hs.t0 hs.tW ha fun u v e => by
    rw [hl] at e
    cases q : look f.2 u with
    | some x =>
      rw [q] at e
      have ex : x = v := Option.some.inj e
      have := hf.look q
      refine ⟨this.1, this.2.1, fun z => ?_, by omega⟩
      rw [z, hn] at q
      cases q
    | none =>
      rw [q] at e
      by_cases z : f.1 = u
      · rw [if_pos z] at e
        cases e
      · rw [if_neg z] at e
        exact hs.look e
  rw [← em] at this
  exact this
theorem run_passed {W : Int} {b : List Int} {f s m : Gate} (hb : BOk W b) (hf : GOk W f) (hs : GOk W s) (h : passed f s = some m) : runL [s, f, m] b = runL [f, s] b := by
  have hm := passed_ok hf hs h
  obtain ⟨em, ha, ⟨v, hv⟩, hn, hcf, hl⟩ := passed_look hf.asc hs.asc h
  show step1 (step1 (step1 b s) f) m = step1 (step1 b f) s
  have hbs := step1_ok hb hs
  have hbf := step1_ok hb hf
  have nts : f.1 ≠ s.1 := fun e => by
    have := hs.noT
    rw [← e, hv] at this
    cases this
  have nm1 : look m.2 f.1 = none := by rw [hl, hf.noT, if_pos rfl]; rfl
  have nm2 : look m.2 s.1 = none := by rw [← em]; exact hm.noT
  refine bits_ext (by simp only [step1_len]) fun u hu0 => ?_
  rw [step1_at (step1_ok hbs hf) hm hu0, fire_frame hbs hf hm nm1, fire_frame hb hs hm nm2, step1_at hbs hf hu0, fire_frame hb hs hf hn, step1_at hb hs hu0,
    step1_at hbf hs hu0, step1_at hb hf hu0, em]
  -- the tests: R the rest of s
  have vs := (hs.look hv).2.2.2
  have bt := hb.bit f.1
  have f0 := hf.t0
  have cs : fire s b = true ↔ (∀ x y, x ≠ f.1 → look s.2 x = some y → at' b x = y) ∧ at' b f.1 = v := by
    rw [fire_iff hs.asc]
    constructor
    · intro z; exact ⟨fun x y _ e => z x y e, z _ _ hv⟩
    · rintro ⟨z1, z2⟩ x y e
      by_cases q : x = f.1
      · rw [q] at e ⊢
        rw [hv] at e
        rw [z2]
        exact Option.some.inj e
      · exact z1 x y q e
  have cs2 : fire s (step1 b f) = true ↔ (∀ x y, x ≠ f.1 → look s.2 x = some y → at' b x = y) ∧ (at' b f.1 = v ↔ ¬ fire f b = true) := by
    rw [fire_iff hs.asc]
    have e0 : at' (step1 b f) f.1 = v ↔ (at' b f.1 = v ↔ ¬ fire f b = true) := by
      rw [step1_at hb hf f0]
      cases q : fire f b <;> simp
      omega
    have e1 : ∀ x y, x ≠ f.1 → look s.2 x = some y → at' (step1 b f) x = at' b x := fun x y n e => by
      rw [step1_at hb hf (hs.look e).1, if_neg (fun z => n z.1)]
    constructor
    · intro z; exact ⟨fun x y n e => by rw [← e1 x y n e]; exact z x y e, e0.mp (z _ _ hv)⟩
    · rintro ⟨z1, z2⟩ x y e
      by_cases q : x = f.1
      · rw [q] at e ⊢
        rw [hv] at e
        rw [e0.mpr z2]
        exact Option.some.inj e
      · rw [e1 x y q e]; exact z1 x y q e
  have cm : fire m b = true ↔ (∀ x y, x ≠ f.1 → look s.2 x = some y → at' b x = y) ∧ fire f b = true := by
    rw [fire_iff hm.asc, fire_iff hf.asc]
    constructor
    · intro z
      refine ⟨fun x y n e => ?_, fun x y e => z x y (by rw [hl, e]; rfl)⟩
      cases q : look f.2 x with
      | some c =>
        have := hcf x c y q e
        subst this
        exact z x c (by rw [hl, q]; rfl)
      | none => exact z x y (by rw [hl, q, if_neg (fun w => n w.symm), e]; rfl)
    · rintro ⟨z1, z2⟩ x y e
      rw [hl] at e
      cases q : look f.2 x with
      | some c =>
        rw [q] at e
        have ec : c = y := Option.some.inj e
        rw [← ec]
        exact z2 x c q
      | none =>
        rw [q] at e
        by_cases w : f.1 = x
        · rw [if_pos w] at e; cases e
        · rw [if_neg w] at e
          exact z1 x y (fun k => w k.symm) e
  generalize (∀ x y, x ≠ f.1 → look s.2 x = some y → at' b x = y) = R at cs cs2 cm
  by_cases z1 : u = f.1
  · have z2 : ¬ u = s.1 := fun k => nts (z1.symm.trans k)
    simp [z1, nts]
  · by_cases z2 : u = s.1
    · have z3 : ¬ s.1 = f.1 := fun k => nts k.symm
      by_cases hR : R
      · cases h1 : fire f b <;> cases h2 : fire s b <;> cases h3 : fire s (step1 b f) <;> cases h4 : fire m b <;> simp [h1, h2, h3, h4, hR] at cs cs2 cm <;> simp [z2, z3] <;> omega
      · have a1 : fire s b = false := by cases q : fire s b with
          | false => rfl
          | true => exact absurd (cs.mp q).1 hR
        have a2 : fire s (step1 b f) = false := by cases q : fire s (step1 b f) with
          | false => rfl
          | true => exact absurd (cs2.mp q).1 hR
        have a3 : fire m b = false := by cases q : fire m b with
          | false => rfl
          | true => exact absurd (cm.mp q).1 hR
        simp [a1, a2, a3, z2, z3]
    · simp [z1, z2]
end Bk

set_option Elab.async false
set_option linter.all false
set_option maxRecDepth 100000
set_option maxHeartbeats 4000000
/-! Loops, comprehensions, dicts of ints, over data. -/
namespace Bk
open PySem PySem.Spec PyProof.Rows L2

section
variable {K : PySem.W.Frag} {H H' H1 H2 : Hp} {σ : L2.St} {ta tb te tc tl : TE} {tt t u : TT} {d e : PyData} {ds es : List PyData} {v w : V} {wi : TI} {g : TG}
/-! ### what is walked gives the data ds, as long as the heap goes on by Rl -/
def WD (K : PySem.W.Frag) (Rl : Hp → Hp → Prop) (wi : TI) (σ : L2.St) (H : Hp) (ds : List PyData) : Prop := ∀ H1, Same H H1 → ∀ R : It → Hp → Prop,
  (∀ (J : It) (H2 : Hp) (G : Hp → Prop) (Y : Nat → Hp → V → Hp → Prop), Same H1 H2 → Walk J ds.length G Y → (∀ H3, Rl H2 H3 → G H3) →
    (∀ i H3 x H4, Rl H2 H3 → Y i H3 x H4 → H4 = H3 ∧ ∃ d, ds[i]? = some d ∧ TD K H3 x d) → R J H2) → wi σ H1 R
theorem wd_tup (h : ED K tl σ H (.tuple ds)) : WD K Wx (iTup K tl) σ H ds := fun H1 a R k => h H1 a _ fun x H2 b q => by
  obtain ⟨p, vs, rfl, q1, q2⟩ := q.tup_of
  refine ⟨p, rfl, ⟨vs, q1.sq⟩, ?_⟩
  have wk : Walk (Itt K p) vs.length (fun H => SqT K H p vs) (YAt vs) := walk_tup
  rw [q2.len] at wk
  refine k _ H2 _ _ b wk (fun H3 c => (wx_t c q1).sq) fun i H3 y H4 c r => ⟨r.1, ?_⟩
  exact (q2.w c).getV r.2
theorem wd_lst (h : EL K tl σ H ds) : WD K Same (iList K tl) σ H ds := fun H1 a R k => h H1 a _ fun p vs H2 np b hp q => by
  refine ⟨p, rfl, ⟨vs, .inl (.inl hp)⟩, ?_⟩
  have wk : Walk (Itl K p) vs.length (fun H => SqL K H p vs) (YAt vs) := walk_list
  rw [q.len] at wk
  refine k _ H2 _ _ b wk (fun H3 c => .inl (.inl (c _ _ hp))) fun i H3 y H4 c r => ⟨r.1, ?_⟩
  exact (q.up c).getV r.2
def rngD (n : Nat) : List PyData := (List.range n).map fun i : Nat => PyData.int (i : Int)
def dwnD (lo : Int) (n : Nat) : List PyData := (List.range n).map fun i : Nat => PyData.int (lo - (i : Int))
theorem rngD_len (n : Nat) : (rngD n).length = n := by unfold rngD; rw [List.length_map, List.length_range]
theorem dwnD_len (lo : Int) (n : Nat) : (dwnD lo n).length = n := by unfold dwnD; rw [List.length_map, List.length_range]
theorem rngD_at {n i : Nat} (h : i < n) : (rngD n)[i]? = some (.int (i : Int)) := by
  unfold rngD
  rw [List.getElem?_map, List.getElem?_range h]
  rfl
theorem dwnD_at {lo : Int} {n i : Nat} (h : i < n) : (dwnD lo n)[i]? = some (.int (lo - (i : Int))) := by
  unfold dwnD
  rw [List.getElem?_map, List.getElem?_range h]
  rfl
theorem wd_rng {n : Nat} (h : ED K ta σ H (.int (n : Int))) (hn : n ≤ 100000) : WD K (fun _ _ => True) (iRng1 (tCons ta tNil)) σ H (rngD n) := fun H1 a R k => ev_int h H1 a _ fun H2 b => by
  refine ⟨(n : Int), rfl, by omega, by omega, ?_⟩
  rw [Int.toNat_natCast]
  refine k _ H2 (fun _ => True) (fun i H x H' => i < n ∧ H' = H ∧ x = V.int ((0 : Int) + (i : Int))) b ?_ (fun _ _ => trivial) fun i H3 x H4 _ r => ⟨r.2.1, .int (i : Int), rngD_at r.1, ?_⟩
  · rw [rngD_len]
    exact ⟨fun i H hi _ => hi, fun H _ => Nat.le_refl _, fun i H x H' hi _ y => ⟨hi, y⟩⟩
  · rw [r.2.2, Int.zero_add]
    exact .int _
/-- range(lo, stop, -1) -/
theorem wd_down {lo hi : Int} {tb tc : TE} (ha : ED K ta σ H (.int lo)) (hb : ED K tb σ H (.int hi)) (hc : ED K tc σ H (.int (-1))) (h1 : -100000 ≤ lo ∧ lo ≤ 100000) (h2 : -100000 ≤ hi ∧ hi ≤ 100000) :
    WD K (fun _ _ => True) (iRng3 (tCons ta (tCons tb (tCons tc tNil)))) σ H (dwnD lo (lo - hi).toNat) := fun H1 a R k => ev_int ha H1 a _ fun H2 b => ev_int hb H2 (a.trans b) _ fun H3 c => ev_int hc H3 ((a.trans b).trans c) _ fun H4 f => by
  refine ⟨lo, hi, -1, (lo - hi).toNat, rfl, RgC.neg (by omega) (by omega) (by omega) (by omega), ?_⟩
  refine k _ H4 (fun _ => True) (fun i H x H' => i < (lo - hi).toNat ∧ H' = H ∧ x = V.int (lo + (i : Nat) * (-1))) ((b.trans c).trans f) ?_ (fun _ _ => trivial) fun i H3 x H4 _ r => ⟨r.2.1, .int (lo - (i : Int)), dwnD_at r.1, ?_⟩
  · rw [dwnD_len]
    exact ⟨fun i H hi _ => hi, fun H _ => Nat.le_refl _, fun i H x H' hi _ y => ⟨hi, y⟩⟩
  · rw [r.2.2, show lo + (i : Int) * (-1) = lo - (i : Int) by omega]
    exact .int _
theorem wd_mono {R1 R2 : Hp → Hp → Prop} (h : WD K R1 wi σ H ds) (m : ∀ a b, R2 a b → R1 a b) : WD K R2 wi σ H ds := fun H1 a R k => h H1 a R fun J H2 G Y b wk hG hY => k J H2 G Y b wk (fun H3 r => hG H3 (m _ _ r)) fun i H3 x H4 r => hY i H3 x H4 (m _ _ r)
/-- a for over data -/
theorem k_for {Rl : Hp → Hp → Prop} {D : Ends} {tu : TS} (hw : WD K Rl wi σ H ds)
    (h : ∀ Hs, Same H Hs → ∃ Pv : Nat → L2.St → Hp → Prop, Pv 0 σ Hs ∧ (∀ i σ' H', Pv i σ' H' → Rl Hs H') ∧
      (∀ i d v σ' H', ds[i]? = some d → TD K H' v d → Pv i σ' H' → g v σ' H' fun σ2 H2 => tu { D with nx := Pv (i + 1), ct := Pv (i + 1), bk := D.nx } σ2 H2) ∧ (∀ σ' H', Pv ds.length σ' H' → D.nx σ' H')) : KP (tFor wi g tu D) σ H := fun H1 a => hw H1 a _ fun J H2 G Y b wk hG hY => by
  obtain ⟨Pv, p0, pR, ps, pd⟩ := h H2 (a.trans b)
  refine for_it wk Pv p0 (fun i σ' H' _ p => hG H' (pR i σ' H' p)) (fun i x σ' H' H'' hi p y => ?_) pd
  obtain ⟨rfl, d, hd, q⟩ := hY i H' x H'' (pR i σ' H' p) y
  exact ps i d x σ' H'' hd q p
/-- one turn of a comprehension -/
def TurnD (K : PySem.W.Frag) (g : TG) (tt : TT) (te : TE) (σw : L2.St) (vs : List Nat) (H : Hp) (v : V) (keep : Bool) (e : PyData) : Prop :=
  ∃ σ2, (∀ Qg : L2.St → Hp → Prop, Qg σ2 H → g v σw H Qg) ∧ wipe σ2 vs = σw ∧ ET tt σ2 H keep ∧ (keep = true → ED K te σ2 H e)
theorem turn_name {j : Nat} {σw : L2.St} {vs : List Nat} {b : Bool} (hw : wipe (σw.set j (some v)) vs = σw) (ht : ET tt (σw.set j (some v)) H b) (he : b = true → ED K te (σw.set j (some v)) H e) : TurnD K (gName j) tt te σw vs H v b e :=
  ⟨_, fun _ q => q, hw, ht, he⟩
theorem turn_pair {i j : Nat} {σw : L2.St} {vs : List Nat} {b : Bool} {d1 d2 : PyData} (q : TD K H v (.tuple [d1, d2]))
    (h : ∀ v1 v2, TD K H v1 d1 → TD K H v2 d2 → wipe ((σw.set i (some v1)).set j (some v2)) vs = σw ∧ ET tt ((σw.set i (some v1)).set j (some v2)) H b ∧ (b = true → ED K te ((σw.set i (some v1)).set j (some v2)) H e)) :
    TurnD K (gTup K 2 (gCons (gName i) (gCons (gName j) gNil))) tt te σw vs H v b e := by
  obtain ⟨p, xs, rfl, q1, q2⟩ := q.tup_of
  cases q2 with
  | cons h1 h2 => cases h2 with
    | cons h2 h3 =>
      cases h3
      obtain ⟨a1, a2, a3⟩ := h _ _ h1 h2
      exact ⟨_, fun _ k => ⟨p, _, rfl, q1.sq, rfl, _, _, rfl, _, _, rfl, rfl, k⟩, a1, a2, a3⟩
theorem et_yes : ET tYes σ H true := fun H1 _ Q k => k H1 (Same.refl _)
theorem el_lc {vs : List Nat} (f : PyData → Bool) (ev : PyData → PyData) (hw : WD K Same wi σ H ds)
    (ht : ∀ (i : Nat) d v H', Same H H' → ds[i]? = some d → TD K H' v d → TurnD K g tt te (wipe σ vs) vs H' v (f d) (ev d)) (hz : ds.length ≤ 100000) : EL K (tLc wi g tt te vs) σ H ((ds.filter f).map ev) := fun H0 a Q k =>
  hw H0 a _ fun J H1 G Y b wk hG hY => fun Dl nD => by
    have ab := a.trans b
    let Pv : Nat → Hp → Prop := fun i H' => Same H1 H' ∧ ∃ ws, H' Dl = some (.lst ws) ∧ TDs K H' ws (((ds.take i).filter f).map ev)
    refine lc_it wk Pv ⟨same_new nD, [], upd_same, .nil⟩ (fun i H' _ p => hG H' p.1) (fun i x H' H'' hi p y => ?_) fun H' p => ?_
    · obtain ⟨rfl, d, hd, q⟩ := hY i H' x H'' p.1 y
      obtain ⟨σ2, g1, g2, g3, g4⟩ := ht i d x H'' (ab.trans p.1) hd q
      refine g1 _ ⟨g2, ?_⟩
      obtain ⟨p1, ws, p2, p3⟩ := p
      have et : ds.take (i + 1) = ds.take i ++ [d] := by
        rw [List.take_add_one, hd]
        rfl
      have hlen : (((ds.take i).filter f).map ev).length < sizeLine := by
        rw [List.length_map]
        have h1 := List.length_filter_le f (ds.take i)
        have h2 := List.length_take_le i ds
        have h3 : (100000 : Nat) < sizeLine := by decide
        omega
      refine g3 H'' (Same.refl _) _ fun H3 s3 => ?_
      cases hf : f d with
      | true =>
        show te σ2 H3 fun y H4 => ∃ acc, H4 Dl = some (.lst acc) ∧ acc.length < sizeLine ∧ Pv (i + 1) (upd H4 Dl (.lst (acc ++ [y])))
        refine g4 hf H3 s3 _ fun y H4 s4 qy => ⟨ws, s4 _ _ (s3 _ _ p2), by rw [p3.len]; exact hlen, same_mut (p1.trans (s3.trans s4)) nD, ws ++ [y], upd_same, ?_⟩
        have wl : Wx H4 (upd H4 Dl (.lst (ws ++ [y]))) := wx_lst (s4 _ _ (s3 _ _ p2))
        rw [et, List.filter_append, List.map_append, List.filter_cons, if_pos hf]
        exact ((p3.up (s3.trans s4)).w wl).app (.cons (qy.w wl) .nil)
      | false =>
        show Pv (i + 1) H3
        refine ⟨p1.trans s3, ws, s3 _ _ p2, ?_⟩
        rw [et, List.filter_append, List.map_append, List.filter_cons, if_neg (by rw [hf]; decide)]
        show TDs K H3 ws (_ ++ [])
        rw [List.append_nil]
        exact p3.up s3
    · obtain ⟨p1, ws, p2, p3⟩ := p
      rw [List.take_length] at p3
      exact k Dl ws H' (b.free nD) (b.trans p1) p2 p3

/-! ### dicts of ints -/
def encD (cs : Ctl) : List (Key × V) := cs.map fun c => (Sum.inl c.1, V.int c.2)
theorem encD_len (cs : Ctl) : (encD cs).length = cs.length := List.length_map ..
theorem valV_enc (w : Int) : ∀ cs : Ctl, valV (encD cs) (Sum.inl w) = (look cs w).map V.int
  | [] => rfl
  | c :: r => by
    have ih := valV_enc w r
    unfold encD at ih ⊢
    rw [List.map_cons, look]
    by_cases e : c.1 = w
    · rw [valV_pos (by rw [e]), if_pos e]
      rfl
    · rw [valV_neg (fun z => e (Sum.inl.inj z)), ih, if_neg e]
theorem put_enc (cs : Ctl) (w x : Int) : putK (encD cs) (Sum.inl w) (V.int x) = encD (put cs w x) := by
  unfold putK put
  rw [valV_any, valV_enc, Option.isSome_map]
  show (if has cs w = true then _ else _) = _
  split
  · unfold encD
    rw [List.map_map, List.map_map]
    refine List.map_congr_left fun c _ => ?_
    by_cases e : c.1 = w
    · simp [e]
    · have e' : ¬ (Sum.inl c.1 : Key) = Sum.inl w := fun z => e (Sum.inl.inj z)
      simp [e, e']
  · unfold encD
    rw [List.map_append]
    rfl
theorem drop_enc (w : Int) : ∀ cs : Ctl, dropK (encD cs) (Sum.inl w) = encD (del cs w)
  | [] => rfl
  | c :: r => by
    have ih := drop_enc w r
    unfold dropK encD del at ih ⊢
    rw [List.map_cons, List.filter_cons, List.filter_cons, ih]
    by_cases e : c.1 = w
    · simp [e]
    · have e' : ¬ (Sum.inl c.1 : Key) = Sum.inl w := fun z => e (Sum.inl.inj z)
      simp [e, e']
theorem keys_enc (cs : Ctl) : (encD cs).map (fun kv => kV kv.1) = (keys cs).map V.int := by
  unfold encD keys
  rw [List.map_map, List.map_map]
  rfl
theorem merge_enc : ∀ (ps cs : Ctl), mergeK (encD cs) (encD ps) = encD (puts cs ps)
  | [], cs => rfl
  | p :: r, cs => by
    have ih := merge_enc r (put cs p.1 p.2)
    rw [puts, ← ih, ← put_enc]
    rfl
theorem put_new {cs : Ctl} {w x : Int} (h : has cs w = false) : put cs w x = cs ++ [(w, x)] := by
  unfold put
  rw [h]
  rfl
theorem puts_app : ∀ (ps cs : Ctl), (keys (cs ++ ps)).Nodup → puts cs ps = cs ++ ps
  | [], cs, _ => by simp [puts]
  | p :: r, cs, h => by
    have hn : has cs p.1 = false := by
      cases q : has cs p.1 with
      | false => rfl
      | true =>
        exfalso
        have m := has_key.mp q
        rw [keys, List.map_append] at h
        have := (List.nodup_append.mp h).2.2 p.1 m p.1 (by simp)
        exact this rfl
    rw [puts, put_new hn, puts_app r (cs ++ [(p.1, p.2)]) (by rw [List.append_assoc]; exact h), List.append_assoc]
    rfl
def encC (c : Int × Int) : PyData := .tuple [.int c.1, .int c.2]
def encCs (cs : Ctl) : PyData := .tuple (cs.map encC)
def encG (g : Gate) : PyData := .tuple [.int g.1, encCs g.2]
def encGs (gs : List Gate) : PyData := .tuple (gs.map encG)
def encCi (c : Circ) : PyData := .tuple [.int c.1, encGs c.2]
/-- a new dict -/
def EDc (te : TE) (σ : L2.St) (H : Hp) (cs : Ctl) : Prop := ∀ H1, Same H H1 → ∀ Q : VK, (∀ p H2, H1 p = none → Same H1 H2 → H2 p = some (.dK (encD cs)) → Q (.ref p) H2) → te σ H1 Q
theorem pairs_at : ∀ {cs : Ctl} {vs : List V}, TDs K H vs (cs.map encC) → ∃ ps : List Addr, vs = ps.map V.ref ∧ Paired (fun p kv => SqT K H p [kV kv.1, kv.2]) ps (encD cs)
  | [], _, h => by cases h; exact ⟨[], rfl, .nil⟩
  | c :: cs, _, h => by
    cases h with
    | cons h1 h2 =>
      obtain ⟨p, xs, rfl, q1, q2⟩ := h1.tup_of
      obtain ⟨ps, rfl, hp⟩ := pairs_at h2
      have q3 : xs = [V.int c.1, V.int c.2] := TDs.ints (ns := [c.1, c.2]) q2
      subst q3
      exact ⟨p :: ps, rfl, .cons q1.sq hp⟩
theorem edc_dict {cs : Ctl} (h : ED K ta σ H (encCs cs)) (hn : (keys cs).Nodup) : EDc (tCB (rDicT K) (tCons ta tNil)) σ H cs := fun H1 a Q k => h H1 a _ fun x H2 b q => by
  obtain ⟨p, vs, rfl, q1, q2⟩ := q.tup_of
  obtain ⟨ps, rfl, hp⟩ := pairs_at q2
  refine ⟨p, ps, encD cs, rfl, q1, hp, fun l nl => ?_⟩
  have e : mergeK [] (encD cs) = encD cs := by
    have := merge_enc cs []
    rw [puts_app cs [] (by simpa using hn)] at this
    exact this
  rw [e]
  exact k l _ (b.free nl) (b.trans (same_new nl)) upd_same
theorem k_setD {D : Ends} {i : Nat} {cs : Ctl} (h : EDc te σ H cs) (k : ∀ p H1, H p = none → Same H H1 → H1 p = some (.dK (encD cs)) → KP D.nx (σ.set i (some (.ref p))) H1) : KP (tAsg te (gName i) D) σ H := fun H1 s =>
  h H1 s _ fun p H2 np s2 hp => k p H2 (s.free np) (s.trans s2) hp H2 (Same.refl _)
/-- a dict that stands, or is locked -/
def DictAt (H : Hp) (p : Addr) (cs : Ctl) : Prop := Rd H p (.dK (encD cs))
theorem DictAt.of {p : Addr} {cs : Ctl} (h : H p = some (.dK (encD cs))) : DictAt H p cs := .inl h
theorem DictAt.up {p : Addr} {cs : Ctl} (h : DictAt H p cs) (e : Same H H') : DictAt H' p cs := by
  rcases h with h | ⟨o, h⟩
  · exact .inl (e _ _ h)
  · exact .inr ⟨o, e _ _ h⟩
theorem ed_dget {p : Addr} {cs : Ctl} {w x : Int} (hp : DictAt H p cs) (hd : EV ta σ H (.ref p)) (hi : ED K tb σ H (.int w)) (hl : look cs w = some x) : ED K (tDGet ta tb) σ H (.int x) := fun H1 a Q k =>
  hd H1 a _ fun H2 b => ev_int hi H2 (a.trans b) _ fun H3 c => ⟨p, .int x, rfl, .inl ⟨encD cs, Sum.inl w, hp.up ((a.trans b).trans c), rfl, by rw [valV_enc, hl]; rfl⟩, k _ H3 (b.trans c) (.int x)⟩
theorem ed_din {p : Addr} {cs : Ctl} {w : Int} (hp : DictAt H p cs) (hi : ED K ta σ H (.int w)) (hd : EV tb σ H (.ref p)) : ED K (tDIn ta tb) σ H (.bool (has cs w)) := fun H1 a Q k =>
  ev_int hi H1 a _ fun H2 b => hd H2 (a.trans b) _ fun H3 c => ⟨p, (look cs w).map V.int, rfl, .inl ⟨encD cs, Sum.inl w, hp.up ((a.trans b).trans c), rfl, by rw [valV_enc]⟩, by
    rw [Option.isSome_map]
    exact k _ H3 (b.trans c) (.bl (has cs w))⟩
theorem ed_dni {p : Addr} {cs : Ctl} {w : Int} (hp : DictAt H p cs) (hi : ED K ta σ H (.int w)) (hd : EV tb σ H (.ref p)) : ED K (tDNotIn ta tb) σ H (.bool (!has cs w)) := fun H1 a Q k =>
  ev_int hi H1 a _ fun H2 b => hd H2 (a.trans b) _ fun H3 c => ⟨p, (look cs w).map V.int, rfl, .inl ⟨encD cs, Sum.inl w, hp.up ((a.trans b).trans c), rfl, by rw [valV_enc]⟩, by
    rw [Option.isSome_map]
    exact k _ H3 (b.trans c) (.bl (!has cs w))⟩
/-- w in dict(..): the dict made on the way -/
theorem ed_dinN {cs : Ctl} {w : Int} (hi : ED K ta σ H (.int w)) (hd : EDc tb σ H cs) : ED K (tDIn ta tb) σ H (.bool (has cs w)) := fun H1 a Q k =>
  ev_int hi H1 a _ fun H2 b => hd H2 (a.trans b) _ fun p H3 np c hp => ⟨p, (look cs w).map V.int, rfl, .inl ⟨encD cs, Sum.inl w, .inl hp, rfl, by rw [valV_enc]⟩, by
    rw [Option.isSome_map]
    exact k _ H3 (b.trans c) (.bl (has cs w))⟩
def rLenD : List V → Hp → VK → Prop := fun xs H Q => ∃ a kvs, xs = [V.ref a] ∧ H a = some (.dK kvs) ∧ Q (.int kvs.length) H
theorem ed_lenD {p : Addr} {cs : Ctl} (hp : H p = some (.dK (encD cs))) (hd : EV ta σ H (.ref p)) : ED K (tCB rLenD (tCons ta tNil)) σ H (.int (cs.length : Int)) := fun H1 a Q k =>
  hd H1 a _ fun H2 b => ⟨p, encD cs, rfl, (a.trans b) _ _ hp, by rw [encD_len]; exact k _ H2 b (.int _)⟩
/-- d[w] = x -/
theorem k_dput {D : Ends} {p : Addr} {cs : Ctl} {w x : Int} {td ty tv : TE} (hp : H p = some (.dK (encD cs))) (hd : EV td σ H (.ref p)) (hy : ED K ty σ H (.int w)) (hv : ED K tv σ H (.int x)) (hl : cs.length < 100000)
    (k : ∀ H1, Same H H1 → D.nx σ (upd H1 p (.dK (encD (put cs w x))))) : KP (sDPut td ty tv D) σ H := fun H1 a => ev_int hv H1 a _ fun H2 b => hd H2 (a.trans b) _ fun H3 c => ev_int hy H3 ((a.trans b).trans c) _ fun H4 f => by
  have s4 := ((a.trans b).trans c).trans f
  have hz : (encD cs).length < sizeLine := by
    rw [encD_len]
    have : (100000 : Nat) < sizeLine := by decide
    omega
  refine ⟨p, _, rfl, .inl ⟨encD cs, Sum.inl w, s4 _ _ hp, rfl, hz, rfl⟩, ?_⟩
  rw [put_enc]
  exact k H4 s4
/-- d.pop(w), as a statement -/
theorem k_dpop {D : Ends} {p : Addr} {cs : Ctl} {w x : Int} {td ty : TE} (hp : H p = some (.dK (encD cs))) (hd : EV td σ H (.ref p)) (hy : ED K ty σ H (.int w)) (hl : look cs w = some x)
    (k : ∀ H1, Same H H1 → D.nx σ (upd H1 p (.dK (encD (del cs w))))) : KP (tDrop (tDPop1 td ty) D) σ H := fun H1 a => hd H1 a _ fun H2 b => ⟨p, rfl, .inl ⟨_, .inl ((a.trans b) _ _ hp)⟩, ev_int hy H2 (a.trans b) _ fun H3 c => by
  have s3 := (a.trans b).trans c
  refine ⟨encD cs, Sum.inl w, .int x, s3 _ _ hp, rfl, by rw [valV_enc, hl]; rfl, ?_⟩
  rw [drop_enc]
  exact k H3 s3⟩
/-- list(d) -/
theorem el_keys {p : Addr} {cs : Ctl} (hp : H p = some (.dK (encD cs))) (hd : EV ta σ H (.ref p)) : EL K (tCB rListD (tCons ta tNil)) σ H ((keys cs).map PyData.int) := fun H1 a Q k =>
  hd H1 a _ fun H2 b => ⟨p, encD cs, rfl, (a.trans b) _ _ hp, fun q nq => k q _ _ (b.free nq) (b.trans (same_new nq)) (by rw [upd_same, keys_enc]) (TDs.of_ints _)⟩
/-- sorted(list of ints), all different -/
theorem el_sort {ns ms : List Int} (h : EL K ta σ H (ns.map PyData.int)) (h64 : ns.length < 64) (hs : ms.Pairwise (· < ·)) (hm : ∀ x, x ∈ ms ↔ x ∈ ns) (hn : ns.Nodup) : EL K (tCB (rSorted K) (tCons ta tNil)) σ H (ms.map PyData.int) := fun H1 a Q k =>
  h H1 a _ fun p vs H2 np b hp q => ⟨p, ns, rfl, by rw [← q.ints]; exact .inl (.inl hp), h64, fun ns' l pe so nl => by
    have e : ns' = ms := by
      have nd : ns'.Nodup := pe.nodup_iff.mpr hn
      have st : ns'.Pairwise (· < ·) := by
        have := List.Pairwise.and so nd
        exact this.imp fun ⟨x, y⟩ => by omega
      exact asc_list_uniq st hs fun x => by rw [pe.mem_iff, hm]
    subst e
    exact k l _ _ (b.free nl) (b.trans (same_new nl)) upd_same (TDs.of_ints _)⟩
/-- under the lock of a walk over a dict -/
theorem el_lock {p : Addr} {cs : Ctl} (hp : H p = some (.dK (encD cs))) (h : ∀ od, EL K te σ (upd H p (.frz od (.dK (encD cs)))) ds) : EL K (tLockE te) σ H ds := fun H1 a Q k => by
  refine ⟨p, .dK (encD cs), a _ _ hp, trivial, fun od => ?_⟩
  have s1 : Same (upd H p (.frz od (.dK (encD cs)))) (upd H1 p (.frz od (.dK (encD cs)))) := fun b o e => by
    by_cases z : b = p
    · subst z
      rw [upd_same] at e ⊢
      exact e
    · rw [upd_ne z] at e ⊢
      exact a _ _ e
  refine h od _ s1 _ fun r vs H2 nr b hr q => ?_
  have nrp : r ≠ p := fun z => by
    rw [z, upd_same] at nr
    cases nr
  have fz : H2 p = some (.frz od (.dK (encD cs))) := b _ _ upd_same
  refine ⟨fz, k r vs _ (by rw [upd_ne nrp] at nr; exact nr) (fun c o e => ?_) (by rw [upd_ne nrp]; exact hr) (q.w (wx_frz fz))⟩
  by_cases z : c = p
  · subst z
    rw [a _ _ hp] at e
    cases e
    exact upd_same
  · rw [upd_ne z]
    exact b _ _ (by rw [upd_ne z]; exact e)
/-- walking a locked dict's keys -/
theorem wd_keys {p : Addr} {od : Obj} {cs : Ctl} (hp : H p = some (.frz od (.dK (encD cs)))) (hd : EV ta σ H (.ref p)) : WD K Same (iKeys ta) σ H ((keys cs).map PyData.int) := fun H1 a R k => hd H1 a _ fun H2 b => by
  have fz := (a.trans b) _ _ hp
  refine ⟨p, od, rfl, .inl ⟨encD cs, fz, ?_⟩⟩
  have wk : Walk (Itk p od (encD cs)) (encD cs).length (fun H => H p = some (.frz od (.dK (encD cs)))) (fun i H x H' => H' = H ∧ ∃ k v, (encD cs)[i]? = some (k, v) ∧ x = kV k) := walk_keys
  have e : (encD cs).length = ((keys cs).map PyData.int).length := by rw [encD_len, List.length_map, List.length_map]
  rw [e] at wk
  refine k _ H2 _ _ b wk (fun H3 c => c _ _ fz) fun i H3 x H4 c r => ⟨r.1, ?_⟩
  obtain ⟨_, kk, vv, r1, r2⟩ := r
  unfold encD at r1
  rw [List.getElem?_map] at r1
  cases q : cs[i]? with
  | none =>
    rw [q] at r1
    cases r1
  | some c0 =>
    rw [q] at r1
    have e1 : (Sum.inl c0.1, V.int c0.2) = (kk, vv) := Option.some.inj r1
    have e2 := (Prod.mk.inj e1).1
    refine ⟨.int c0.1, ?_, ?_⟩
    · rw [List.getElem?_map, List.getElem?_map, q]
      rfl
    · rw [r2, ← e2]
      exact .int _
/-- a dict comprehension over a tuple of pairs -/
theorem edc_dc {vs : List Nat} {tk tv : TE} {cs : Ctl} (h : ED K tl σ H (encCs cs)) (hn : (keys cs).Nodup) (hz : cs.length ≤ 10000)
    (ht : ∀ c v H', Same H H' → TD K H' v (encC c) → ∃ σ2, (∀ Qg : L2.St → Hp → Prop, Qg σ2 H' → g v (wipe σ vs) H' Qg) ∧ wipe σ2 vs = wipe σ vs ∧ ED K tk σ2 H' (.int c.1) ∧ ED K tv σ2 H' (.int c.2)) :
    EDc (tDc (iTup K tl) g tYes tk tv vs) σ H cs := fun H0 a Q k => h H0 a _ fun x H1 b q => by
  obtain ⟨p, xs, rfl, q1, q2⟩ := q.tup_of
  refine ⟨p, rfl, ⟨xs, q1.sq⟩, fun Dl nD => ?_⟩
  have ab := a.trans b
  refine dc_tup (xs := xs) (fun i H' => Same H1 H' ∧ H' Dl = some (.dK (encD (cs.take i)))) ⟨same_new nD, upd_same⟩ (fun i H' _ p => (wx_t (wx_same p.1) q1).sq) (fun i x H' hi p => ?_) fun H' p => ?_
  · obtain ⟨d, hd, qd⟩ := (q2.up p.1).getV hi
    rw [List.getElem?_map] at hd
    cases qc : cs[i]? with
    | none =>
      rw [qc] at hd
      cases hd
    | some c =>
      rw [qc] at hd
      have ed : encC c = d := Option.some.inj hd
      subst ed
      obtain ⟨σ2, g1, g2, g3, g4⟩ := ht c x H' (ab.trans p.1) qd
      refine g1 _ ⟨g2, ?_⟩
      show tk σ2 H' _
      refine ev_int g3 H' (Same.refl _) _ fun H3 s3 => ev_int g4 H3 s3 _ fun H4 s4 => ?_
      have at4 := s4 _ _ (s3 _ _ p.2)
      refine ⟨encD (cs.take i), Sum.inl c.1, rfl, at4, ?_, same_mut (p.1.trans (s3.trans s4)) nD, ?_⟩
      · rw [encD_len, List.length_take]
        have : (100000 : Nat) < sizeLine := by decide
        omega
      · rw [upd_same, put_enc, put_new, List.take_add_one, qc]
        · rfl
        · cases z : has (cs.take i) c.1 with
          | false => rfl
          | true =>
            exfalso
            have m := has_key.mp z
            have e : keys cs = keys (cs.take i) ++ keys (cs.drop i) := by
              rw [← List.map_append, List.take_append_drop]
            rw [e] at hn
            have m2 : c.1 ∈ keys (cs.drop i) := List.mem_map.mpr ⟨c, List.mem_of_getElem? (i := 0) (by rw [List.getElem?_drop]; exact qc), rfl⟩
            exact (List.nodup_append.mp hn).2.2 _ m _ m2 rfl
  · have e : xs.length = cs.length := by
      have := q2.len
      rw [List.length_map] at this
      exact this
    obtain ⟨p1, p2⟩ := p
    rw [e, List.take_length] at p2
    exact k Dl H' (b.free nD) (b.trans p1) p2
end
end Bk

set_option Elab.async false
set_option linter.all false
set_option maxRecDepth 100000
set_option maxHeartbeats 0
namespace Bk
open PySem PySem.Spec PyProof.Rows L2
def top (i : Nat) : Stmt := PySem.Challenge.pw_backrun_k96_whole_any_steps_on_circuits.main.body.getD i (.Pass ⟨0, 0, 0, 0⟩)
abbrev sis_number : Stmt := top 1
abbrev sis_gate : Stmt := top 2
abbrev swires_of : Stmt := top 3
abbrev srun_circuit : Stmt := top 4
abbrev sconflict : Stmt := top 8
abbrev sexchanged : Stmt := top 9
abbrev smerged : Stmt := top 10
abbrev ssplit : Stmt := top 11
abbrev spassed : Stmt := top 12
abbrev snew_gates : Stmt := top 13
abbrev sapply_step : Stmt := top 14
abbrev sapply_steps : Stmt := top 15
abbrev scan_reach : Stmt := top 17
abbrev ssame_gate : Stmt := top 18
abbrev scan_merge : Stmt := top 19
abbrev sfirst_pair : Stmt := top 20
abbrev sgathered : Stmt := top 21
abbrev scancelling : Stmt := top 22
abbrev smerging : Stmt := top 23
abbrev sshrink : Stmt := top 24
abbrev sas_bits : Stmt := top 26
abbrev sparting : Stmt := top 27
abbrev sL_draw : Stmt := top 29
abbrev sL_take : Stmt := top 30
abbrev sL_gate : Stmt := top 31
abbrev sL_turned : Stmt := top 33
abbrev sL_bits : Stmt := top 34
abbrev sL_value : Stmt := top 35
abbrev sL_map : Stmt := top 36
abbrev sL_free : Stmt := top 37
abbrev sL_ordered : Stmt := top 38
abbrev sL_one : Stmt := top 39
abbrev sL_passed : Stmt := top 40
abbrev sL_is_gate : Stmt := top 41
abbrev sL_behind : Stmt := top 42
abbrev sL_split : Stmt := top 43
abbrev sL_step : Stmt := top 44
abbrev sL_rich : Stmt := top 45
abbrev sLaw : Stmt := top 46
end Bk

set_option Elab.async false
set_option linter.all false
set_option maxRecDepth 100000
set_option maxHeartbeats 4000000
/-! Defs by their names, calls, and the small steps of a reading. -/
namespace Bk
open PySem PySem.Spec PyProof.Rows L2
theorem bt_len : bootBuiltins ("len" : Str) = some (.builtin "len") := by decide +kernel
theorem bt_isinstance : bootBuiltins ("isinstance" : Str) = some (.builtin "isinstance") := by decide +kernel
theorem bt_list : bootBuiltins ("list" : Str) = some (.type "list") := by decide +kernel
theorem bt_tuple : bootBuiltins ("tuple" : Str) = some (.type "tuple") := by decide +kernel
theorem bt_dict : bootBuiltins ("dict" : Str) = some (.type "dict") := by decide +kernel
theorem bt_sorted : bootBuiltins ("sorted" : Str) = some (.builtin "sorted") := by decide +kernel
theorem bt_any : bootBuiltins ("any" : Str) = some (.builtin "any") := by decide +kernel
theorem bt_all : bootBuiltins ("all" : Str) = some (.builtin "all") := by decide +kernel
theorem bt_range : bootBuiltins ("range" : Str) = some (.type "range") := by decide +kernel
theorem bt_sum : bootBuiltins ("sum" : Str) = some (.builtin "sum") := by decide +kernel
theorem bt_max : bootBuiltins ("max" : Str) = some (.builtin "max") := by decide +kernel
theorem bt_int : bootBuiltins ("int" : Str) = some (.type "int") := by decide +kernel
theorem bt_abs : bootBuiltins ("abs" : Str) = some (.builtin "abs") := by decide +kernel
theorem bt_bool : bootBuiltins ("bool" : Str) = some (.type "bool") := by decide +kernel
theorem bt_str : bootBuiltins ("str" : Str) = some (.type "str") := by decide +kernel
structure Fx (mg : Str → Option Value) : Prop where
  len : mg ("len" : Str) = none
  isinstance : mg ("isinstance" : Str) = none
  list : mg ("list" : Str) = none
  tuple : mg ("tuple" : Str) = none
  dict : mg ("dict" : Str) = none
  sorted : mg ("sorted" : Str) = none
  any : mg ("any" : Str) = none
  all : mg ("all" : Str) = none
  range : mg ("range" : Str) = none
  sum : mg ("sum" : Str) = none
  max : mg ("max" : Str) = none
  int : mg ("int" : Str) = none
  abs : mg ("abs" : Str) = none
  bool : mg ("bool" : Str) = none
  str : mg ("str" : Str) = none

/-- a def of the program under its name -/
structure Df (K : PySem.W.Frag) (mg : Str → Option Value) (x : Str) (st : Stmt) : Prop where
  ex : ∃ (f : Addr) (fd : FuncData), FunD K x x (defArgs st) (defBody st) (defScope st) [] [] f fd ∧ mg x = some (.ref f)
/-- a def that keeps a promise -/
structure Cl (P : Program) (w : World) (K : PySem.W.Frag) (mg : Str → Option Value) (base : Heap) (k : Nat) (x : Str) (sp : Sp) : Prop where
  ex : ∃ (f : Addr) (fd : FuncData) (ps : List Str), FnOk P w K mg base CX0 k f fd ps sp ∧ mg x = some (.ref f) ∧ PySem.W.keepIn K (.ref f) = true ∧ Binds K fd ps []
section
variable {X : Cx} {j k : Nat} {x : Str} {sp : Sp} {e : Expr} {es : List Expr} {p pos : Pos} {t : TA}
theorem pe_cl (c : Cl X.prog X.w X.K X.mg X.base k x sp) (hr : Room j X.A) (hk : k ≤ j) (hg : Gl X x) (ha : PA X (e :: es) t) (hdb : (x == ("__debug__" : Str)) = false := by decide)
    (he : starEach (e :: es) X.env = (false, eval e X.env) :: starEach es X.env := by rfl) (hpl : (backTo pos (starEach es X.env)).any (·.1) = false := by rfl) : PE X (.Call (.Name x p) (e :: es) [] pos) (tCall sp [] E0 t) := by
  obtain ⟨f, fd, ps, F, hm, kp, hb⟩ := c.ex
  exact pe_call F (hr.mono hk) hg hm kp hb .nil pass0 ha hdb he hpl
end
section
variable {P : Program} {w : World} {K : PySem.W.Frag} {mg : Str → Option Value} {base : Heap}
theorem cl_mk {x : Str} {st : Stmt} {N ps : List Str} {k : Nat} {sp : Sp} (D : Df K mg x st) (S : FnScope N ps (defScope st)) (len : ∀ vs H Q E, sp vs H Q E → vs.length = ps.length)
    (hb : ∀ (kV doc pm : Value) (an : Option Addr) (cdv ct : Value) (us : List Value), us.length = ps.length → bindArgs (PySem.W.fnOf x x (defArgs st) (defBody st) (defScope st) .none kV doc pm an cdv ct) ⟨us, []⟩ = pure (ps.zip us))
    (body : ∀ (f : Addr) (cdv : Value) (A : Around) (outer : List Env) (s : Shared) (H : Hp) (vs : List V) (Q : VK) (E : XK), Room k (A.deeper (envOfC x (defScope st) s.heap.objs.size f cdv)) → sp vs H Q E →
      ∃ t, PSs (cxOf CX0 P w K mg base N x (defScope st) f cdv A outer s H E).nox (defBody st) t ∧ t { nx := fun _ H' => Q .non H', rt := Q } (start N vs) H) : Cl P w K mg base (k + 1) x sp := by
  obtain ⟨f, fd, F, hm⟩ := D.ex
  refine ⟨f, fd, ps, F.ok S len (fun cdv A outer s H vs Q E hr h => ?_), hm, F.kp, F.bindsN hb⟩
  obtain ⟨t, h1, h2⟩ := body f cdv A outer s H vs Q E hr h
  exact ⟨t, h1.nox, h2⟩
/-- .. on data -/
theorem cl_F {x : Str} {st : Stmt} {N ps : List Str} {k n : Nat} {R : List PyData → PyData → Prop} (D : Df K mg x st) (S : FnScope N ps (defScope st)) (hn : ps.length = n)
    (hb : ∀ (kV doc pm : Value) (an : Option Addr) (cdv ct : Value) (us : List Value), us.length = ps.length → bindArgs (PySem.W.fnOf x x (defArgs st) (defBody st) (defScope st) .none kV doc pm an cdv ct) ⟨us, []⟩ = pure (ps.zip us))
    (body : ∀ (f : Addr) (cdv : Value) (A : Around) (outer : List Env) (s : Shared) (H : Hp) (vs : List V) (Q : VK) (E : XK) (ds : List PyData) (d : PyData), Room k (A.deeper (envOfC x (defScope st) s.heap.objs.size f cdv)) → TDs K H vs ds → R ds d →
      (∀ v H', Same H H' → TD K H' v d → Q v H') → ∃ t, PSs (cxOf CX0 P w K mg base N x (defScope st) f cdv A outer s H E).nox (defBody st) t ∧ KP (t { nx := fun _ H' => Q .non H', rt := Q }) (start N vs) H) : Cl P w K mg base (k + 1) x (spF K n R) := by
  refine cl_mk D S (fun vs H Q E h => h.1.trans hn.symm) hb fun f cdv A outer s H vs Q E hr h => ?_
  obtain ⟨_, ds, d, h1, h2, h3⟩ := h
  obtain ⟨t, t1, t2⟩ := body f cdv A outer s H vs Q E ds d hr h1 h2 h3
  exact ⟨t, t1, t2 H (Same.refl H)⟩
theorem cl_L {x : Str} {st : Stmt} {N ps : List Str} {k n : Nat} {R : List PyData → List PyData → Prop} (D : Df K mg x st) (S : FnScope N ps (defScope st)) (hn : ps.length = n)
    (hb : ∀ (kV doc pm : Value) (an : Option Addr) (cdv ct : Value) (us : List Value), us.length = ps.length → bindArgs (PySem.W.fnOf x x (defArgs st) (defBody st) (defScope st) .none kV doc pm an cdv ct) ⟨us, []⟩ = pure (ps.zip us))
    (body : ∀ (f : Addr) (cdv : Value) (A : Around) (outer : List Env) (s : Shared) (H : Hp) (vs : List V) (Q : VK) (E : XK) (ds : List PyData) (es : List PyData), Room k (A.deeper (envOfC x (defScope st) s.heap.objs.size f cdv)) → TDs K H vs ds → R ds es →
      (∀ p ws H', H p = none → Same H H' → H' p = some (.lst ws) → TDs K H' ws es → Q (.ref p) H') → ∃ t, PSs (cxOf CX0 P w K mg base N x (defScope st) f cdv A outer s H E).nox (defBody st) t ∧ KP (t { nx := fun _ H' => Q .non H', rt := Q }) (start N vs) H) : Cl P w K mg base (k + 1) x (spL K n R) := by
  refine cl_mk D S (fun vs H Q E h => h.1.trans hn.symm) hb fun f cdv A outer s H vs Q E hr h => ?_
  obtain ⟨_, ds, d, h1, h2, h3⟩ := h
  obtain ⟨t, t1, t2⟩ := body f cdv A outer s H vs Q E ds d hr h1 h2 h3
  exact ⟨t, t1, t2 H (Same.refl H)⟩
theorem TDs.one {H : Hp} {vs : List V} {d : PyData} (h : TDs K H vs [d]) : ∃ v, vs = [v] ∧ TD K H v d := by
  cases h with
  | cons h1 h2 =>
    cases h2
    exact ⟨_, rfl, h1⟩
theorem TDs.two {H : Hp} {vs : List V} {d e : PyData} (h : TDs K H vs [d, e]) : ∃ v w, vs = [v, w] ∧ TD K H v d ∧ TD K H w e := by
  cases h with
  | cons h1 h2 =>
    obtain ⟨w', rfl, h3⟩ := h2.one
    exact ⟨_, _, rfl, h1, h3⟩
theorem TDs.three {H : Hp} {vs : List V} {d e f : PyData} (h : TDs K H vs [d, e, f]) : ∃ v w x, vs = [v, w, x] ∧ TD K H v d ∧ TD K H w e ∧ TD K H x f := by
  cases h with
  | cons h1 h2 =>
    obtain ⟨w', x, rfl, h3, h4⟩ := h2.two
    exact ⟨_, _, _, rfl, h1, h3, h4⟩
end
section
variable {K : PySem.W.Frag} {H : Hp} {σ : L2.St} {ta tb te : TE} {ds es : List PyData}
theorem et_T {b : Bool} (h : ED K te σ H (.bool b)) : ET (tTest te) σ H b := fun H1 a Q k => ev_bl h H1 a _ fun H2 s => ⟨b, rfl, k H2 s⟩
/-- lists: +, a slice -/
theorem el_cat (ha : EL K ta σ H ds) (hb : EL K tb σ H es) (hl : ds.length + es.length ≤ sizeLine) : EL K (tOp rCat ta tb) σ H (ds ++ es) := fun H1 a Q k =>
  ha H1 a _ fun p vs H2 np b hp q => hb H2 (a.trans b) _ fun r ws H3 nr c hr q2 => ⟨p, r, vs, ws, rfl, rfl, c _ _ hp, hr, by rw [q.len, q2.len]; exact hl, fun l nl =>
    k l _ _ (b.free (c.free nl)) ((b.trans c).trans (same_new nl)) upd_same (((q.up c).app q2).up (same_new nl))⟩
theorem el_slL {lo hi : Option Int} {tl th : TO} (ha : EL K ta σ H ds) (h1 : EP tl σ H lo) (h2 : EP th σ H hi) : EL K (tSl (rSlL K) ta tl th) σ H (cutD ds lo hi) := fun H1 a Q k =>
  ha H1 a _ fun p vs H2 np b hp q => h1 H2 (a.trans b) _ fun H3 c => h2 H3 ((a.trans b).trans c) _ fun H4 f => ⟨p, vs, rfl, .inl (.inl (f _ _ (c _ _ hp))), fun l nl =>
    k l _ _ (b.free (c.free (f.free nl))) (((b.trans c).trans f).trans (same_new nl)) upd_same ((td_cut (q.up (c.trans f)) lo hi).up (same_new nl))⟩
theorem el_is (h : EL K te σ H ds) (z : ds = es) : EL K te σ H es := by rw [← z]; exact h
end

/-! isinstance, for any data -/
def isIntD : PyData → Bool
  | .int _ => true
  | .bool _ => true
  | _ => false
def isBoolD : PyData → Bool
  | .bool _ => true
  | _ => false
def isTupD : PyData → Bool
  | .tuple _ => true
  | _ => false
def isStrD : PyData → Bool
  | .str _ => true
  | _ => false
theorem kit_int : ∀ d : PyData, kitB (tyN d) "int" = some (isIntD d)
  | .none => (by decide +kernel : kitB "NoneType" "int" = some false)
  | .bool _ => (by decide +kernel : kitB "bool" "int" = some true)
  | .int _ => (by decide +kernel : kitB "int" "int" = some true)
  | .str _ => (by decide +kernel : kitB "str" "int" = some false)
  | .list _ => (by decide +kernel : kitB "list" "int" = some false)
  | .tuple _ => (by decide +kernel : kitB "tuple" "int" = some false)
  | .dict _ => (by decide +kernel : kitB "dict" "int" = some false)
theorem kit_bool : ∀ d : PyData, kitB (tyN d) "bool" = some (isBoolD d)
  | .none => (by decide +kernel : kitB "NoneType" "bool" = some false)
  | .bool _ => (by decide +kernel : kitB "bool" "bool" = some true)
  | .int _ => (by decide +kernel : kitB "int" "bool" = some false)
  | .str _ => (by decide +kernel : kitB "str" "bool" = some false)
  | .list _ => (by decide +kernel : kitB "list" "bool" = some false)
  | .tuple _ => (by decide +kernel : kitB "tuple" "bool" = some false)
  | .dict _ => (by decide +kernel : kitB "dict" "bool" = some false)
theorem kit_tuple : ∀ d : PyData, kitB (tyN d) "tuple" = some (isTupD d)
  | .none => (by decide +kernel : kitB "NoneType" "tuple" = some false)
  | .bool _ => (by decide +kernel : kitB "bool" "tuple" = some false)
  | .int _ => (by decide +kernel : kitB "int" "tuple" = some false)
  | .str _ => (by decide +kernel : kitB "str" "tuple" = some false)
  | .list _ => (by decide +kernel : kitB "list" "tuple" = some false)
  | .tuple _ => (by decide +kernel : kitB "tuple" "tuple" = some true)
  | .dict _ => (by decide +kernel : kitB "dict" "tuple" = some false)
theorem kit_str : ∀ d : PyData, kitB (tyN d) "str" = some (isStrD d)
  | .none => (by decide +kernel : kitB "NoneType" "str" = some false)
  | .bool _ => (by decide +kernel : kitB "bool" "str" = some false)
  | .int _ => (by decide +kernel : kitB "int" "str" = some false)
  | .str _ => (by decide +kernel : kitB "str" "str" = some true)
  | .list _ => (by decide +kernel : kitB "list" "str" = some false)
  | .tuple _ => (by decide +kernel : kitB "tuple" "str" = some false)
  | .dict _ => (by decide +kernel : kitB "dict" "str" = some false)
section
variable {K : PySem.W.Frag} {H : Hp} {σ : L2.St} {ta : TE} {d : PyData}
theorem ed_isInt (ha : ED K ta σ H d) : ED K (tCB (rIsi K) (tCons ta (tCons (tC (.ty "int")) tNil))) σ H (.bool (isIntD d)) := ed_isi ha (kit_int d)
theorem ed_isBool (ha : ED K ta σ H d) : ED K (tCB (rIsi K) (tCons ta (tCons (tC (.ty "bool")) tNil))) σ H (.bool (isBoolD d)) := ed_isi ha (kit_bool d)
theorem ed_isTup (ha : ED K ta σ H d) : ED K (tCB (rIsi K) (tCons ta (tCons (tC (.ty "tuple")) tNil))) σ H (.bool (isTupD d)) := ed_isi ha (kit_tuple d)
theorem ed_isStr (ha : ED K ta σ H d) : ED K (tCB (rIsi K) (tCons ta (tCons (tC (.ty "str")) tNil))) σ H (.bool (isStrD d)) := ed_isi ha (kit_str d)
end
section
variable {K : PySem.W.Frag} {H : Hp} {σ : L2.St} {ta tb : TE} {t u : TT} {a b : Bool}
theorem ed_andF (h : ED K ta σ H (.bool a)) (z : a = false) : ED K (tAndV ta tb) σ H (.bool false) := by
  subst z
  exact ed_andV (b := false) h fun q => absurd q Bool.false_ne_true
theorem ed_andT (h : ED K ta σ H (.bool a)) (z : a = true) (h2 : ED K tb σ H (.bool b)) : ED K (tAndV ta tb) σ H (.bool b) := by
  subst z
  exact ed_andV h fun _ => h2
theorem ed_orT (h : ED K ta σ H (.bool a)) (z : a = true) : ED K (tOrV ta tb) σ H (.bool true) := by
  subst z
  exact ed_orV (b := false) h fun q => absurd q.symm Bool.false_ne_true
theorem ed_orF (h : ED K ta σ H (.bool a)) (z : a = false) (h2 : ED K tb σ H (.bool b)) : ED K (tOrV ta tb) σ H (.bool b) := by
  subst z
  exact ed_orV h fun _ => h2
theorem et_andF (h : ET t σ H a) (z : a = false) : ET (tAnd t u) σ H false := by
  subst z
  exact et_and (b := false) h fun q => absurd q Bool.false_ne_true
theorem et_andT (h : ET t σ H a) (z : a = true) (h2 : ET u σ H b) : ET (tAnd t u) σ H b := by
  subst z
  exact et_and h fun _ => h2
theorem et_orT (h : ET t σ H a) (z : a = true) : ET (tOr t u) σ H true := by
  subst z
  exact et_or (b := false) h fun q => absurd q.symm Bool.false_ne_true
theorem et_orF (h : ET t σ H a) (z : a = false) (h2 : ET u σ H b) : ET (tOr t u) σ H b := by
  subst z
  exact et_or h fun _ => h2
end
section
variable {X : Cx} {K : PySem.W.Frag}
/-! the rules that speak of the written part, with it named -/
theorem kx_tup (h : X.K = K := by rfl) : IxR X (rIxT K) := by subst h; exact ix_tup
theorem kx_list (h : X.K = K := by rfl) : IxR X (rIxL K) := by subst h; exact ix_list
theorem ko_in (h : X.K = K := by rfl) : OpR X (compareOp .In) (rIn K false) := by subst h; exact op_in_seq
theorem ko_notin (h : X.K = K := by rfl) : OpR X (compareOp .NotIn) (rIn K true) := by subst h; exact op_notIn_seq
theorem ko_eqD (u : X.A.units + 64 < cLine) (h : X.K = K := by rfl) : OpR X (compareOp .Eq) (rEqD K) := by subst h; exact op_eqD u
theorem ko_neD (u : X.A.units + 64 < cLine) (h : X.K = K := by rfl) : OpR X (compareOp .NotEq) (rNeD K) := by subst h; exact op_neD u
theorem ko_cat (h : X.K = K := by rfl) : OpR X (binaryOp .Add) (rCatP K) := by subst h; exact op_catP
theorem ks_tup (h : X.K = K := by rfl) : SlR X (rSlP K) := by subst h; exact sl_tupP
theorem ks_list (h : X.K = K := by rfl) : SlR X (rSlL K) := by subst h; exact sl_list
theorem kc_len (h : X.K = K := by rfl) : CallR X (.builtin "len") (rLen1 K) := by subst h; exact call_len_seq
theorem kc_isi (h : X.K = K := by rfl) : CallR X (.builtin "isinstance") (rIsi K) := by subst h; exact call_isi
theorem kc_tup (h : X.K = K := by rfl) : CallR X (.type "tuple") (rTupP K) := by subst h; exact call_tupP
theorem kc_dic (c : X.calm = true) (h : X.K = K := by rfl) : CallR X (.type "dict") (rDicT K) := by subst h; exact call_dicT c
theorem kc_srt (h : X.K = K := by rfl) : CallR X (.builtin "sorted") (rSorted K) := by subst h; exact cr_sorted
theorem kc_srtT (h : X.K = K := by rfl) : CallR X (.builtin "sorted") (rSortT K) := by subst h; exact call_sortT
theorem kc_any (c : X.calm = true) (h : X.K = K := by rfl) : CallR X (.builtin "any") (rAny K) := by subst h; exact cr_any c
theorem kc_all (c : X.calm = true) (h : X.K = K := by rfl) : CallR X (.builtin "all") (rAll K) := by subst h; exact cr_all c
theorem kc_sum (c : X.calm = true) (h : X.K = K := by rfl) : CallR X (.builtin "sum") (rSum K) := by subst h; exact cr_sum c
theorem kc_max (c : X.calm = true) (h : X.K = K := by rfl) : CallR X (.builtin "max") (rMax K) := by subst h; exact cr_max c
def rListS (K : PySem.W.Frag) : List V → Hp → VK → Prop := fun xs H Q => ∃ p ys, xs = [.ref p] ∧ (SqL K H p ys ∨ SqT K H p ys) ∧ ∀ l, H l = none → Q (.ref l) (upd H l (.lst ys))
theorem kc_list (h : X.K = K := by rfl) : CallR X (.type "list") (rListS K) := by subst h; exact call_list_of
theorem kp_tup {tg l : Expr} {tl : TE} (hl : PE X l tl) (h : X.K = K := by rfl) : PI X tg l (iTup K tl) := by subst h; exact pi_tup hl
theorem kp_list {tg l : Expr} {tl : TE} (hl : PE X l tl) (h : X.K = K := by rfl) : PI X tg l (iList K tl) := by subst h; exact pi_list hl
theorem kg_tup {es : List Expr} {k n : Nat} {t : TGs} {pos : Pos} (hc : X.calm = true) (ht : PGs X es t) (h : X.K = K := by rfl) (hn : (assignEach es X.env).length = n := by rfl) (hst : (assignEach es X.env).findIdx? (·.1) = none := by rfl) :
    PG X (.Tuple es k pos) (gTup K n t) := by subst h; exact pg_tup hc ht hn hst
theorem k_app {id : String} {r : V → List V → Hp → VK → Prop} {o e : Expr} {es : List Expr} {to : TE} {t : TA} {name : Str} {apos cpos : Pos} (h : PE X (.Call (.Attribute o name apos) (e :: es) [] cpos) (tBM X.K "list" r to t)) (hk : X.K = K := by rfl) :
    PE X (.Call (.Attribute o name apos) (e :: es) [] cpos) (tBM K "list" r to t) := by subst hk; exact h
end
section
variable {H : Hp} {σ : L2.St} {tt : TT} {ts : TS} {D : Ends}
/-- an if without an else -/
theorem k_if1 {b : Bool} (h : ET tt σ H b) (h1 : b = true → KP (ts D) σ H) (h2 : b = false → KP D.nx σ H) : KP (tIfS tt ts tNext D) σ H := k_if h h1 h2
end
theorem le_line {n : Nat} (h : n ≤ 100000) : n ≤ sizeLine := Nat.le_trans h (by decide)
end Bk

set_option Elab.async false
set_option linter.all false
set_option maxRecDepth 100000
set_option maxHeartbeats 4000000
namespace Bk
open PySem PySem.Spec PyProof.Rows L2

local macro_rules | `(tactic| walk_at "ed") => `(tactic| first
  | assumption
  | exact ed_int | exact ed_bl | exact ed_non | exact ed_str | exact ea_nil | exact ep_none | exact et_yes
  | (apply ed_var rfl; assumption)
  | (apply ea_cons; walk_at "ed"; walk_at "ed")
  | (apply ed_ix; walk_at "ed"; walk_at "ed"; rfl)
  | (apply et_B; walk_at "ed")
  | (apply et_T; walk_at "ed")
  | (apply ed_tup; walk_at "ed"; (apply le_line; simp only [List.length_cons, List.length_nil]; omega))
  | (apply ed_eqI; walk_at "ed"; walk_at "ed")
  | (apply ed_neI; walk_at "ed"; walk_at "ed")
  | (apply ed_eqS; walk_at "ed"; walk_at "ed")
  | (apply ed_neS; walk_at "ed"; walk_at "ed")
  | (apply ed_I0; walk_at "ed"; walk_at "ed")
  | (apply ed_B0; walk_at "ed"; walk_at "ed")
  | (apply ed_neg; walk_at "ed")
  | (apply ed_isN; walk_at "ed")
  | (apply ed_notN; walk_at "ed")
  | (apply ed_lenT; walk_at "ed")
  | (apply ep_some; walk_at "ed")
  | (apply ed_sl; walk_at "ed"; walk_at "ed"; walk_at "ed")
  | (apply el_lst; walk_at "ed"; (apply le_line; simp only [List.length_cons, List.length_nil]; omega))
  | (apply ed_tupL; walk_at "ed")
  | (apply et_not; walk_at "ed")
  | (apply ed_notV; walk_at "ed")
  | (apply ed_isInt; walk_at "ed")
  | (apply ed_isBool; walk_at "ed")
  | (apply ed_isTup; walk_at "ed")
  | (apply ed_isStr; walk_at "ed")
  | (apply ed_andF; walk_at "ed"; rfl)
  | (apply ed_andT; walk_at "ed"; rfl; walk_at "ed")
  | (apply ed_orT; walk_at "ed"; rfl)
  | (apply ed_orF; walk_at "ed"; rfl; walk_at "ed")
  | (apply et_andF; walk_at "ed"; rfl)
  | (apply et_andT; walk_at "ed"; rfl; walk_at "ed")
  | (apply et_orT; walk_at "ed"; rfl)
  | (apply et_orF; walk_at "ed"; rfl; walk_at "ed")
  | (apply ed_andV; walk_at "ed"; (intro _; walk_at "ed"))
  | (apply ed_orV; walk_at "ed"; (intro _; walk_at "ed"))
  | (apply et_and; walk_at "ed"; (intro _; walk_at "ed"))
  | (apply et_or; walk_at "ed"; (intro _; walk_at "ed")))

section
variable {P : Program} {w : World} {K : PySem.W.Frag} {mg : Str → Option Value} {base : Heap}
def isNumD : PyData → Bool
  | .int i => decide (0 ≤ i)
  | _ => false
def R_isnum (ds : List PyData) (d : PyData) : Prop := ∃ x, ds = [x] ∧ d = .bool (isNumD x)
abbrev Nis_number : List Str := ["value"]
theorem scis_number : FnScope Nis_number ["value"] (defScope sis_number) := ⟨rfl, rfl, rfl, by decide +kernel, rfl, by decide +kernel, by decide +kernel⟩
theorem ok_is_number (T : Fx mg) (D : Df K mg "is_number" sis_number) : Cl P w K mg base 1 "is_number" (spF K 1 R_isnum) := by
  refine cl_F D scis_number rfl (fun _ _ _ _ _ _ us hl => match us, hl with | [_], _ => rfl) ?_
  intro f cdv A outer s H vs Q E ds d hr ht hR q
  obtain ⟨x, rfl, rfl⟩ := hR
  obtain ⟨v, rfl, h1⟩ := ht.one
  refine ⟨_, (pss_one (ps_ret (pe_and (pe_callB (kc_isi (K := K)) (by rfl) T.isinstance bt_isinstance (pa_cons (pv 0) (pa_cons (pe_bltn (v := .ty "int") (by rfl) T.int bt_int rfl) pa_nil))) (pe_and (pe_not (pe_callB (kc_isi (K := K)) (by rfl) T.isinstance bt_isinstance (pa_cons (pv 0) (pa_cons (pe_bltn (v := .ty "bool") (by rfl) T.bool bt_bool rfl) pa_nil)))) (pe_one (pe_cmpR op_ge (pv 0) pe_int (nomark _))))))), ?_⟩
  show KP _ [some v] H
  refine k_ret (d := .bool (isNumD x)) ?_ (fun v H1 s q1 => q v H1 s q1)
  cases x with
  | dict x => cases h1
  | _ => (apply ed_is; walk_at "ed"; rfl)
/-! wires_of -/
def R_wires (ds : List PyData) (es : List PyData) : Prop := ∃ g : Gate, g.2.length ≤ 1000 ∧ ds = [encG g] ∧ es = (g.1 :: keys g.2).map PyData.int
abbrev Nwires_of : List Str := ["gate", "wire", "value"]
theorem scwires_of : FnScope Nwires_of ["gate"] (defScope swires_of) := ⟨rfl, rfl, rfl, by decide +kernel, rfl, by decide +kernel, by decide +kernel⟩
theorem ok_wires_of (T : Fx mg) (D : Df K mg "wires_of" swires_of) : Cl P w K mg base 1 "wires_of" (spL K 1 R_wires) := by
  refine cl_L D scwires_of rfl (fun _ _ _ _ _ _ us hl => match us, hl with | [_], _ => rfl) ?_
  intro f cdv A outer s H vs Q E ds d hr ht hR q
  obtain ⟨g, hl, rfl, rfl⟩ := hR
  obtain ⟨v, rfl, h1⟩ := ht.one
  refine ⟨_, (pss_one (ps_ret (pe_op op_cat (pe_lst (pa_cons (pe_ix (kx_tup (K := K)) (pv 0) pe_int (fun _ _ => rfl)) pa_nil)) (pe_lc (own := [("wire", 1), ("value", 2)]) (g := gTup K 2 (gCons (gName 1) (gCons (gName 2) (gNil)))) (tt := tYes) rfl scwires_of.nd (kp_tup (K := K) (pe_ix (kx_tup (K := K)) (pv 0) pe_int (fun _ _ => rfl))) (blkOk_by (own := [("wire", 1), ("value", 2)]) (N := Nwires_of) (sc := defScope swires_of) (by decide +kernel)) (fun _ _ _ _ _ => (kg_tup (K := K) rfl (pgs_cons (pg_name (i := 1) scwires_of.nd rfl (.inl rfl)) (pgs_cons (pg_name (i := 2) scwires_of.nd rfl (.inl rfl)) pgs_nil)))) (fun _ _ _ _ _ => pts_nil) (fun _ _ _ _ _ => (pv 1)))))), ?_⟩
  show KP _ [some v, none, none] H
  have h1 : TD K H v (.tuple [.int g.1, encCs g.2]) := h1
  refine k_retL (ds := [.int g.1] ++ (keys g.2).map PyData.int) ?_ (fun p ws H1 np s hp q1 => q p ws H1 np s hp q1)
  refine el_cat (by walk_at "ed") ?_ ?_
  · have e : (keys g.2).map PyData.int = ((g.2.map encC).filter fun _ => true).map fun d => match d with | .tuple [.int a, _] => .int a | x => x := by
      rw [List.filter_eq_self.mpr (fun _ _ => rfl), List.map_map, List.map_map]
      rfl
    rw [e]
    refine el_lc (fun _ => true) _ (wd_mono (wd_tup (ds := g.2.map encC) (by walk_at "ed")) fun _ _ => wx_same) (fun i d v' H' s hd q => ?_) (by rw [List.length_map]; omega)
    rw [List.getElem?_map] at hd
    cases hc : g.2[i]? with
    | none => rw [hc] at hd; cases hd
    | some c =>
      rw [hc] at hd
      have ed : encC c = d := Option.some.inj hd
      subst ed
      refine turn_pair (d1 := .int c.1) (d2 := .int c.2) q fun v1 v2 q1 q2 => ⟨rfl, et_yes, fun _ => ?_⟩
      exact ed_var rfl q1
  · rw [List.length_map, List.length_map]
    show 1 + g.2.length ≤ 16777216
    omega
end
end Bk

set_option Elab.async false
set_option linter.all false
set_option maxRecDepth 100000
set_option maxHeartbeats 4000000
namespace Bk
open PySem PySem.Spec PyProof.Rows L2

local macro_rules | `(tactic| walk_at "ed") => `(tactic| first
  | assumption
  | exact ed_int | exact ed_bl | exact ed_non | exact ed_str | exact ea_nil | exact ep_none | exact et_yes
  | (apply ed_var rfl; assumption)
  | (apply ea_cons; walk_at "ed"; walk_at "ed")
  | (apply ed_ix; walk_at "ed"; walk_at "ed"; rfl)
  | (apply et_B; walk_at "ed")
  | (apply et_T; walk_at "ed")
  | (apply ed_tup; walk_at "ed"; (apply le_line; simp only [List.length_cons, List.length_nil]; omega))
  | (apply ed_eqI; walk_at "ed"; walk_at "ed")
  | (apply ed_neI; walk_at "ed"; walk_at "ed")
  | (apply ed_eqS; walk_at "ed"; walk_at "ed")
  | (apply ed_neS; walk_at "ed"; walk_at "ed")
  | (apply ed_I0; walk_at "ed"; walk_at "ed")
  | (apply ed_B0; walk_at "ed"; walk_at "ed")
  | (apply ed_neg; walk_at "ed")
  | (apply ed_isN; walk_at "ed")
  | (apply ed_notN; walk_at "ed")
  | (apply ed_lenT; walk_at "ed")
  | (apply ep_some; walk_at "ed")
  | (apply ed_sl; walk_at "ed"; walk_at "ed"; walk_at "ed")
  | (apply el_lst; walk_at "ed"; (apply le_line; simp only [List.length_cons, List.length_nil]; omega))
  | (apply ed_tupL; walk_at "ed")
  | (apply et_not; walk_at "ed")
  | (apply ed_notV; walk_at "ed")
  | (apply ed_isInt; walk_at "ed")
  | (apply ed_isBool; walk_at "ed")
  | (apply ed_isTup; walk_at "ed")
  | (apply ed_isStr; walk_at "ed")
  | (apply ed_andF; walk_at "ed"; rfl)
  | (apply ed_andT; walk_at "ed"; rfl; walk_at "ed")
  | (apply ed_orT; walk_at "ed"; rfl)
  | (apply ed_orF; walk_at "ed"; rfl; walk_at "ed")
  | (apply et_andF; walk_at "ed"; rfl)
  | (apply et_andT; walk_at "ed"; rfl; walk_at "ed")
  | (apply et_orT; walk_at "ed"; rfl)
  | (apply et_orF; walk_at "ed"; rfl; walk_at "ed")
  | (apply ed_andV; walk_at "ed"; (intro _; walk_at "ed"))
  | (apply ed_orV; walk_at "ed"; (intro _; walk_at "ed"))
  | (apply et_and; walk_at "ed"; (intro _; walk_at "ed"))
  | (apply et_or; walk_at "ed"; (intro _; walk_at "ed")))

theorem map_at {α : Type} {f : α → PyData} {l : List α} {i : Nat} {d : PyData} (h : (l.map f)[i]? = some d) : ∃ c, l[i]? = some c ∧ f c = d := by
  rw [List.getElem?_map] at h
  cases e : l[i]? with
  | none => rw [e] at h; cases h
  | some c =>
    rw [e] at h
    exact ⟨c, rfl, Option.some.inj h⟩
theorem any_has (cs : Ctl) (w : Int) : ((keys cs).any fun n => decide (n = w)) = has cs w := by
  cases h : has cs w with
  | true => exact List.any_eq_true.mpr ⟨w, has_key.mp h, by simp⟩
  | false =>
    refine List.any_eq_false.mpr fun x hx e => ?_
    have e' : x = w := by simpa using e
    rw [e'] at hx
    rw [has_key.mpr hx] at h
    cases h
theorem cutD1 (d : PyData) (ds : List PyData) : cutD (d :: ds) (some 1) none = ds := by
  unfold cutD
  have e : HT.sIx (d :: ds).length 0 (some 1) = 1 := by
    have := HT.sIx_nat (d :: ds).length 0 1
    rw [show ((1 : Nat) : Int) = 1 from rfl] at this
    rw [this, List.length_cons]
    omega
  rw [e, HT.sIx_none, List.length_cons]
  show List.take (ds.length + 1 - 1) ds = ds
  rw [Nat.add_sub_cancel, List.take_length]
theorem filt {α : Type} (l : List α) : l.filter (fun _ => true) = l := List.filter_eq_self.mpr fun _ _ => rfl
section
variable {P : Program} {w : World} {K : PySem.W.Frag} {mg : Str → Option Value} {base : Heap}
/-- a gate small enough, its controls ascending -/
structure GS (g : Gate) : Prop where
  asc : Asc g.2
  len : g.2.length ≤ 30
theorem GS.nd {g : Gate} (h : GS g) : (keys g.2).Nodup := asc_nodup h.asc
def R_conf (ds : List PyData) (d : PyData) : Prop := ∃ f s : Gate, GS f ∧ GS s ∧ ds = [encG f, encG s] ∧ d = .bool (conflict f s)
def cfB (f : Ctl) (c : Int × Int) : Bool := match look f c.1 with
  | some v => !decide (v = c.2)
  | none => false
def asC : PyData → Int × Int
  | .tuple [.int a, .int b] => (a, b)
  | _ => (0, 0)
theorem asC_enc (c : Int × Int) : asC (encC c) = c := rfl
abbrev Nconflict : List Str := ["first", "second", "values", "wire", "value"]
theorem scconflict : FnScope Nconflict ["first", "second"] (defScope sconflict) := ⟨rfl, rfl, rfl, by decide +kernel, rfl, by decide +kernel, by decide +kernel⟩
theorem ok_conflict (T : Fx mg) (D : Df K mg "conflict" sconflict) : Cl P w K mg base 1 "conflict" (spF K 2 R_conf) := by
  refine cl_F D scconflict rfl (fun _ _ _ _ _ _ us hl => match us, hl with | [_, _], _ => rfl) ?_
  intro f cdv A outer s H vs Q E ds d hr ht hR q
  obtain ⟨f1, s1, gf, gs, rfl, rfl⟩ := hR
  obtain ⟨v1, v2, rfl, h1, h2⟩ := ht.two
  refine ⟨_, (pss_cons (ps_set (i := 2) scconflict.nd rfl (.inr rfl) (pe_dc (own := [("wire", 3), ("value", 4)]) (g := gTup K 2 (gCons (gName 3) (gCons (gName 4) (gNil)))) (tt := tYes) rfl scconflict.nd (kp_tup (K := K) (pe_ix (kx_tup (K := K)) (pv 0) pe_int (fun _ _ => rfl))) (blkOk_by (own := [("wire", 3), ("value", 4)]) (N := Nconflict) (sc := defScope sconflict) (by decide +kernel)) (fun _ _ _ _ _ => (kg_tup (K := K) (n := 2) rfl (pgs_cons (pg_name (i := 3) scconflict.nd rfl (.inl rfl)) (pgs_cons (pg_name (i := 4) scconflict.nd rfl (.inl rfl)) pgs_nil)))) (fun _ _ _ _ _ => pts_nil) (fun _ _ _ _ _ => (pv 3)) (fun _ _ _ _ _ => (pv 4))))
      (pss_one (ps_ret (pe_callB (kc_any (K := K) rfl) (by rfl) T.any bt_any (pa_cons (pe_lc (own := [("wire", 3), ("value", 4)]) (g := gTup K 2 (gCons (gName 3) (gCons (gName 4) (gNil)))) (tt := tYes) rfl scconflict.nd (kp_tup (K := K) (pe_ix (kx_tup (K := K)) (pv 1) pe_int (fun _ _ => rfl))) (blkOk_by (own := [("wire", 3), ("value", 4)]) (N := Nconflict) (sc := defScope sconflict) (by decide +kernel)) (fun _ _ _ _ _ => (kg_tup (K := K) (n := 2) rfl (pgs_cons (pg_name (i := 3) scconflict.nd rfl (.inl rfl)) (pgs_cons (pg_name (i := 4) scconflict.nd rfl (.inl rfl)) pgs_nil)))) (fun _ _ _ _ _ => pts_nil) (fun _ _ _ _ _ => (pe_and (pe_cmp (pc_din (hu_of hr) (pv 3) (pv 2))) (pe_one (pe_cmpR op_ne (pe_dget (hu_of hr) (pv 2) (pv 3) (fun _ _ => rfl)) (pv 4) (nomark _)))))) pa_nil))))), ?_⟩
  show KP _ [some v1, some v2, none, none, none] H
  have h1 : TD K H v1 (.tuple [.int f1.1, encCs f1.2]) := h1
  have h2 : TD K H v2 (.tuple [.int s1.1, encCs s1.2]) := h2
  have l1 := gf.len
  have l2 := gs.len
  refine k_setD (cs := f1.2) (edc_dc (by walk_at "ed") gf.nd (by omega) fun c v H' s q => ?_) fun p H1 np s hp => ?_
  · obtain ⟨a, xs, rfl, q1, q2⟩ := q.tup_of
    obtain ⟨x1, x2, rfl, r1, r2⟩ := q2.two
    refine ⟨_, fun _ k => ⟨a, _, rfl, q1.sq, rfl, _, _, rfl, _, _, rfl, rfl, k⟩, rfl, ?_, ?_⟩
    · exact ed_var rfl r1
    · exact ed_var rfl r2
  · have h2 := h2.up s
    dsimp only
    refine k_ret (K := K) (d := .bool (conflict f1 s1)) ?_ fun v H2 s2 q2 => ?_
    rotate_left
    · exact q v H2 (s.trans s2) q2
    refine ed_is (ed_any (bs := s1.2.map (cfB f1.2)) ?_) (by rw [List.any_map]; rfl)
    have e : (s1.2.map (cfB f1.2)).map PyData.bool = ((s1.2.map encC).filter fun _ => true).map fun d => .bool (cfB f1.2 (asC d)) := by
      rw [filt, List.map_map, List.map_map]
      rfl
    rw [e]
    refine el_lc (fun _ => true) (fun d => .bool (cfB f1.2 (asC d))) (wd_mono (wd_tup (ds := s1.2.map encC) (by walk_at "ed")) fun _ _ => wx_same) (fun i d v' H' s' hd q => ?_) (by rw [List.length_map]; omega)
    obtain ⟨c, hc, rfl⟩ := map_at hd
    refine turn_pair (d1 := .int c.1) (d2 := .int c.2) q fun x1 x2 q1 q2 => ⟨rfl, et_yes, fun _ => ?_⟩
    have dict : DictAt H' p f1.2 := (DictAt.of hp).up s'
    cases hl : look f1.2 c.1 with
    | none =>
      refine ed_is (ed_andF (ed_din dict (ed_var rfl q1) (ev_var rfl)) (by simp [has, hl])) ?_
      rw [asC_enc]
      unfold cfB
      rw [hl]
    | some y =>
      refine ed_is (ed_andT (ed_din dict (ed_var rfl q1) (ev_var rfl)) (by simp [has, hl]) (ed_neI (ed_dget dict (ev_var rfl) (ed_var rfl q1) hl) (ed_var rfl q2))) ?_
      rw [asC_enc]
      unfold cfB
      rw [hl]
def R_exch (ds : List PyData) (d : PyData) : Prop := ∃ f s : Gate, GS f ∧ GS s ∧ ds = [encG f, encG s] ∧ d = if exch f s then .tuple [encG s, encG f] else .none
abbrev Nexchanged : List Str := ["first", "second", "free"]
theorem scexchanged : FnScope Nexchanged ["first", "second"] (defScope sexchanged) := ⟨rfl, rfl, rfl, by decide +kernel, rfl, by decide +kernel, by decide +kernel⟩
theorem ok_exchanged (T : Fx mg) (D : Df K mg "exchanged" sexchanged) (c_wires_of : Cl P w K mg base 1 "wires_of" (spL K 1 R_wires)) (c_conflict : Cl P w K mg base 1 "conflict" (spF K 2 R_conf)) : Cl P w K mg base 2 "exchanged" (spF K 2 R_exch) := by
  refine cl_F D scexchanged rfl (fun _ _ _ _ _ _ us hl => match us, hl with | [_, _], _ => rfl) ?_
  intro f cdv A outer s H vs Q E ds d hr ht hR q
  obtain ⟨f1, s1, gf, gs, rfl, rfl⟩ := hR
  obtain ⟨v1, v2, rfl, h1, h2⟩ := ht.two
  refine ⟨_, (pss_cons (ps_set (i := 2) scexchanged.nd rfl (.inl rfl) (pe_and (pe_cmpR (ko_notin (K := K)) (pe_ix (kx_tup (K := K)) (pv 0) pe_int (fun _ _ => rfl)) (pe_slice (ks_list (K := K)) (pe_cl c_wires_of hr (by omega) (by rfl) (pa_cons (pv 1) pa_nil)) (po_some pe_int) po_none) (by rfl)) (pe_one (pe_cmpR (ko_notin (K := K)) (pe_ix (kx_tup (K := K)) (pv 1) pe_int (fun _ _ => rfl)) (pe_slice (ks_list (K := K)) (pe_cl c_wires_of hr (by omega) (by rfl) (pa_cons (pv 0) pa_nil)) (po_some pe_int) po_none) (by rfl)))))
      (pss_cons (ps_if (PW.pt (pw_or (pt_val (pv 2)) (pw_or1 (pt_val (pe_cl c_conflict hr (by omega) (by rfl) (pa_cons (pv 0) (pa_cons (pv 1) pa_nil))))))) (pss_one (ps_ret (pe_tupP (pa_cons (pv 1) (pa_cons (pv 0) pa_nil))))) pss_nil)
      (pss_one (ps_ret pe_non)))), ?_⟩
  show KP _ [some v1, some v2, none] H
  have i1 : TD K H v1 (.tuple [.int f1.1, encCs f1.2]) := h1
  have i2 : TD K H v2 (.tuple [.int s1.1, encCs s1.2]) := h2
  have l1 := gf.len
  have l2 := gs.len
  have wires : ∀ {σ : L2.St} {tr : TA} {g : Gate}, GS g → EA K tr σ H [encG g] → EL K (tSl (rSlL K) (tCall (spL K 1 R_wires) [] E0 tr) (tPart (tC (.int 1))) tNoPart) σ H ((keys g.2).map PyData.int) := fun {σ tr g} hg ha => by
    have lg := hg.len
    have := el_slL (el_call (R := R_wires) (E := E0) ha ⟨g, by omega, rfl, rfl⟩) (ep_some (K := K) (ed_int (i := 1))) ep_none
    rw [List.map_cons, cutD1] at this
    exact this
  refine k_set (K := K) (d := .bool (!has s1.2 f1.1 && !has f1.2 s1.1)) ?_ fun v H1 s hv => ?_
  · refine ed_andV (a := !has s1.2 f1.1) (b := !has f1.2 s1.1) ?_ fun _ => ?_
    · refine ed_is (ed_inL (neg := true) (i := f1.1) (ns := keys s1.2) ?_ (wires gs ?_)) ?_
      · walk_at "ed"
      · walk_at "ed"
      · rw [any_has]
        rfl
    · refine ed_is (ed_inL (neg := true) (i := s1.1) (ns := keys f1.2) ?_ (wires gf ?_)) ?_
      · walk_at "ed"
      · walk_at "ed"
      · rw [any_has]
        rfl
  · have h1 := h1.up s
    have h2 := h2.up s
    dsimp only
    refine k_if1 (b := exch f1 s1) ?_ (fun hb => ?_) (fun hb => ?_)
    · refine et_or (a := !has s1.2 f1.1 && !has f1.2 s1.1) (b := conflict f1 s1) (et_B (ed_var rfl hv)) fun _ => ?_
      refine et_B (ed_call (ds := [encG f1, encG s1]) ?_ ⟨f1, s1, gf, gs, rfl, rfl⟩)
      walk_at "ed"
    · refine k_ret (K := K) (d := .tuple [encG s1, encG f1]) ?_ fun v H2 s2 q2 => ?_
      · walk_at "ed"
      refine q v H2 (s.trans s2) ?_
      rw [if_pos hb]
      exact q2
    · dsimp only
      refine k_ret (K := K) (d := .none) ?_ fun v H2 s2 q2 => ?_
      · walk_at "ed"
      refine q v H2 (s.trans s2) ?_
      rw [hb]
      exact q2
end
end Bk

set_option Elab.async false
set_option linter.all false
set_option maxRecDepth 100000
set_option maxHeartbeats 4000000
/-! More about readings: what may be compared, cuts, dicts in order. -/
namespace Bk
open PySem PySem.Spec PyProof.Rows L2

/-! ### data that may be compared -/
structure EqOk (n : Nat) (d : PyData) : Prop where
  l : noL d = true
  c : d.canLay0 = true
  k : d.depth ≤ n
theorem EqOk.up {n m : Nat} {d : PyData} (h : EqOk n d) (le : n ≤ m := by omega) : EqOk m d := ⟨h.l, h.c, Nat.le_trans h.k le⟩
theorem EqOk.sh {n : Nat} {d : PyData} (h : EqOk n d) (le : n ≤ 64 := by omega) : SeqAt.shaped d = true := by
  unfold SeqAt.shaped
  rw [h.c, decide_eq_true (Nat.le_trans h.k le)]
  rfl
theorem eo_int (i : Int) : EqOk 0 (.int i) := ⟨rfl, by simp [PyData.canLay0], by simp [PyData.depth]⟩
theorem eo_bool (i : Bool) : EqOk 0 (.bool i) := ⟨rfl, by simp [PyData.canLay0], by simp [PyData.depth]⟩
theorem eo_none : EqOk 0 .none := ⟨rfl, by simp [PyData.canLay0], by simp [PyData.depth]⟩
theorem eo_all {n : Nat} : ∀ {ds : List PyData}, (∀ d ∈ ds, EqOk n d) → noLs ds = true ∧ PyData.canLayAll0 ds = true ∧ PyData.depthAll ds ≤ n
  | [], _ => ⟨rfl, by simp [PyData.canLayAll0], by simp [PyData.depthAll]⟩
  | d :: ds, h => by
    obtain ⟨h1, h2, h3⟩ := h d List.mem_cons_self
    obtain ⟨q1, q2, q3⟩ := eo_all fun e he => h e (List.mem_cons_of_mem _ he)
    refine ⟨by simp [noLs, h1, q1], by simp [PyData.canLayAll0, h2, q2], ?_⟩
    rw [PyData.depthAll]
    omega
theorem eo_tup {n : Nat} {ds : List PyData} (h : ∀ d ∈ ds, EqOk n d) : EqOk (n + 1) (.tuple ds) := by
  obtain ⟨h1, h2, h3⟩ := eo_all h
  exact ⟨by simpa [noL] using h1, by simpa [PyData.canLay0] using h2, by rw [PyData.depth]; omega⟩
theorem eo_map {α : Type} {n : Nat} {f : α → PyData} (l : List α) (h : ∀ a ∈ l, EqOk n (f a)) : EqOk (n + 1) (.tuple (l.map f)) := eo_tup fun d hd => by
  obtain ⟨a, ha, rfl⟩ := List.mem_map.mp hd
  exact h a ha
theorem eo_C (c : Int × Int) : EqOk 1 (encC c) := eo_tup fun d hd => by
  rcases List.mem_cons.mp hd with rfl | hd
  · exact eo_int _
  · rw [List.mem_singleton.mp hd]
    exact eo_int _
theorem eo_Cs (cs : Ctl) : EqOk 2 (encCs cs) := eo_map cs fun c _ => eo_C c
theorem eo_G (g : Gate) : EqOk 3 (encG g) := eo_tup fun d hd => by
  rcases List.mem_cons.mp hd with rfl | hd
  · exact (eo_int _).up
  · rw [List.mem_singleton.mp hd]
    exact eo_Cs _
theorem eo_Gs (gs : List Gate) : EqOk 4 (encGs gs) := eo_map gs fun g _ => eo_G g
theorem eo_Ci (c : Circ) : EqOk 5 (encCi c) := eo_tup fun d hd => by
  rcases List.mem_cons.mp hd with rfl | hd
  · exact (eo_int _).up
  · rw [List.mem_singleton.mp hd]
    exact eo_Gs _
/-! equality of the encodings -/
theorem eqv_int (i j : Int) : PyData.eqv (.int i) (.int j) = decide (i = j) := by
  rw [PyData.eqv, Bool.beq_eq_decide_eq]
theorem eqv_map {α : Type} [DecidableEq α] {f : α → PyData} (h : ∀ a b, PyData.eqv (f a) (f b) = decide (a = b)) : ∀ (l m : List α), PyData.eqvAll (l.map f) (m.map f) = decide (l = m)
  | [], [] => rfl
  | [], _ :: _ => rfl
  | _ :: _, [] => rfl
  | a :: l, b :: m => by
    rw [List.map_cons, List.map_cons, PyData.eqvAll, h, eqv_map h l m]
    by_cases e : a = b
    · by_cases e2 : l = m
      · simp [e, e2]
      · simp [e, e2]
    · simp [e]
theorem eqv_C (a b : Int × Int) : PyData.eqv (encC a) (encC b) = decide (a = b) := by
  unfold encC
  rw [PyData.eqv, PyData.eqvAll, PyData.eqvAll, PyData.eqvAll, eqv_int, eqv_int]
  by_cases e1 : a.1 = b.1
  · by_cases e2 : a.2 = b.2
    · have : a = b := Prod.ext e1 e2
      simp [this]
    · have : ¬ a = b := fun z => e2 (congrArg Prod.snd z)
      simp [e2, this]
  · have : ¬ a = b := fun z => e1 (congrArg Prod.fst z)
    simp [e1, this]
theorem eqv_G (a b : Gate) : PyData.eqv (encG a) (encG b) = decide (a = b) := by
  unfold encG encCs
  rw [PyData.eqv, PyData.eqvAll, PyData.eqvAll, PyData.eqvAll, eqv_int, PyData.eqv, eqv_map eqv_C]
  by_cases e1 : a.1 = b.1
  · by_cases e2 : a.2 = b.2
    · have : a = b := Prod.ext e1 e2
      simp [this]
    · have : ¬ a = b := fun z => e2 (congrArg Prod.snd z)
      simp [e2, this]
  · have : ¬ a = b := fun z => e1 (congrArg Prod.fst z)
    simp [e1, this]
theorem eqv_nilL : ∀ ds : List PyData, PyData.eqv (.list ds) (.list []) = ds.isEmpty
  | [] => rfl
  | d :: ds => by rw [PyData.eqv, PyData.eqvAll]; rfl
theorem eqv_nilT : ∀ ds : List PyData, PyData.eqv (.tuple ds) (.tuple []) = ds.isEmpty
  | [] => rfl
  | d :: ds => by rw [PyData.eqv, PyData.eqvAll]; rfl

theorem filt_ints (f : Int → Bool) : ∀ ns : List Int, ((ns.map PyData.int).filter fun d => match d with | .int w => f w | _ => false).map id = (ns.filter f).map PyData.int
  | [] => rfl
  | n :: ns => by
    have ih := filt_ints f ns
    rw [List.map_cons, List.filter_cons, List.filter_cons]
    cases h : f n with
    | true =>
      rw [if_pos (by exact h), if_pos rfl, List.map_cons, List.map_cons, ih]
      rfl
    | false =>
      rw [if_neg (by intro z; rw [show (match PyData.int n with | .int w => f w | _ => false) = f n from rfl, h] at z; cases z), if_neg (by simp), ih]
section
variable {K : PySem.W.Frag} {H H' H1 H2 : Hp} {σ : L2.St} {ta tb te tc tl : TE} {tt t u : TT} {d e : PyData} {ds es : List PyData} {v w : V} {wi : TI} {g : TG} {D : Ends} {ts us : TS}
theorem ed_eqE {n : Nat} (ha : ED K ta σ H d) (hb : ED K tb σ H e) (nd : EqOk n d) (ne : EqOk n e) (hn : n ≤ 64 := by omega) : ED K (tOp (rEqD K) ta tb) σ H (.bool (PyData.eqv d e)) := ed_eqD ha hb nd.l ne.l (nd.sh hn) (ne.sh hn)
theorem ed_neE {n : Nat} (ha : ED K ta σ H d) (hb : ED K tb σ H e) (nd : EqOk n d) (ne : EqOk n e) (hn : n ≤ 64 := by omega) : ED K (tOp (rNeD K) ta tb) σ H (.bool (!PyData.eqv d e)) := ed_neD ha hb nd.l ne.l (nd.sh hn) (ne.sh hn)
theorem sh_ints (ns : List Int) : noLs (ns.map PyData.int) = true ∧ SeqAt.shaped (.list (ns.map PyData.int)) = true := by
  obtain ⟨h1, h2, h3⟩ := eo_all (n := 0) (ds := ns.map PyData.int) fun d hd => by
    obtain ⟨i, _, rfl⟩ := List.mem_map.mp hd
    exact eo_int i
  refine ⟨h1, ?_⟩
  unfold SeqAt.shaped
  rw [PyData.canLay0, h2, PyData.depth, decide_eq_true (by omega)]
  rfl
/-- xs == [] of a list of ints that stands -/
theorem ed_nilV {p : Addr} {ns : List Int} (hp : H p = some (.lst (ns.map V.int))) (ha : EV ta σ H (.ref p)) : ED K (tOp (rEqD K) ta (tLst tNil)) σ H (.bool ns.isEmpty) := fun H1 a Q k =>
  ha H1 a _ fun H2 b => by
    obtain ⟨h1, h2⟩ := sh_ints ns
    refine ⟨Nat.zero_le _, fun r nr => ⟨.list (ns.map PyData.int), .list [], .lst (.inl (.inl (same_new nr _ _ ((a.trans b) _ _ hp)))) (TDs.dp _ _ h1 (TDs.of_ints ns)), .lst (.inl (.inl upd_same)) .nil, h2, rfl, ?_⟩⟩
    rw [eqv_nilL, List.isEmpty_map]
    exact k _ _ (b.trans (same_new nr)) (.bl _)
theorem ed_nnilV {p : Addr} {ns : List Int} (hp : H p = some (.lst (ns.map V.int))) (ha : EV ta σ H (.ref p)) : ED K (tOp (rNeD K) ta (tLst tNil)) σ H (.bool (!ns.isEmpty)) := fun H1 a Q k =>
  ha H1 a _ fun H2 b => by
    obtain ⟨h1, h2⟩ := sh_ints ns
    refine ⟨Nat.zero_le _, fun r nr => ⟨.list (ns.map PyData.int), .list [], .lst (.inl (.inl (same_new nr _ _ ((a.trans b) _ _ hp)))) (TDs.dp _ _ h1 (TDs.of_ints ns)), .lst (.inl (.inl upd_same)) .nil, h2, rfl, ?_⟩⟩
    rw [eqv_nilL, List.isEmpty_map]
    exact k _ _ (b.trans (same_new nr)) (.bl _)
/-- a, b = x, y over names that hold anything -/
theorem k_par {i j : Nat} (ha : EV ta σ H v) (hb : EV tb σ H w) (k : ∀ H1, Same H H1 → KP D.nx ((σ.set i (some v)).set j (some w)) H1) : KP (tAsg (tTupP (tCons ta (tCons tb tNil))) (gTup K 2 (gCons (gName i) (gCons (gName j) gNil))) D) σ H := fun H1 a =>
  ha H1 a _ fun H2 b => hb H2 (a.trans b) _ fun H3 c => by
    refine ⟨by show 2 ≤ sizeLine; decide, fun p o np no => ⟨p, [v, w], rfl, (pt_new (xs := [v, w]) no).sq, rfl, v, [w], rfl, w, [], rfl, rfl, ?_⟩⟩
    exact k _ (((a.trans b).trans c).trans (same_new np)) _ (Same.refl _)
theorem k_cut (Mid : L2.St → Hp → Prop) (h1 : KP (ts { D with nx := Mid }) σ H) (h2 : ∀ σ' H', Mid σ' H' → us D σ' H') : KP (Evl.tCut ts us D) σ H := fun H1 a => ⟨Mid, h1 H1 a, h2⟩
theorem k_mid {p : L2.St → Hp → Prop} (h : ∀ H1, Same H H1 → p σ H1) : KP p σ H := h
theorem k_setLk {i : Nat} (h : EL K (tLockE te) σ H ds) (k : ∀ p vs H1, H p = none → Same H H1 → H1 p = some (.lst vs) → TDs K H1 vs ds → KP D.nx (σ.set i (some (.ref p))) H1) : KP (tLock (tAsg te (gName i)) D) σ H := k_setL (te := tLockE te) h k
theorem k_at {p : L2.St → Hp → Prop} (h : KP p σ H) : p σ H := h H (Same.refl H)
/-- a name stored from a value as it is -/
theorem k_setV {i : Nat} (h : EV te σ H v) (k : ∀ H1, Same H H1 → KP D.nx (σ.set i (some v)) H1) : KP (tAsg te (gName i) D) σ H := fun H1 s => h H1 s _ fun H2 s2 => k H2 (s.trans s2) H2 (Same.refl _)
/-- [wire for wire in one if ..], one a dict -/
theorem el_keysIf {a j : Nat} {p : Addr} {cs : Ctl} (f : Int → Bool) (hp : H p = some (.dK (encD cs))) (hs : σ[a]? = some (some (.ref p))) (hj : j < σ.length) (hz : cs.length ≤ 10000)
    (ht : ∀ (od : Obj) (w : Int) H', Same (upd H p (.frz od (.dK (encD cs)))) H' → w ∈ keys cs → ET tt ((σ.set j none).set j (some (.int w))) H' (f w)) :
    EL K (tLockE (tLc (iKeys (tVar a)) (gName j) tt (tVar j) [j])) σ H (((keys cs).filter f).map PyData.int) := by
  refine el_lock hp fun od => ?_
  have e : ((keys cs).filter f).map PyData.int = (((keys cs).map PyData.int).filter fun d => match d with | .int w => f w | _ => false).map id := by
    exact (filt_ints f (keys cs)).symm
  rw [e]
  refine el_lc _ id (wd_keys (od := od) upd_same (ev_var hs)) (fun i d v H' s hd q => ?_) (by rw [List.length_map, List.length_map]; omega)
  obtain ⟨w, hw, rfl⟩ := map_at hd
  have ev : v = .int w := q.int_eq
  subst ev
  refine turn_name ?_ (ht od w H' s (List.mem_of_getElem? hw)) fun _ => ed_var ?_ (.int w)
  · show ((σ.set j none).set j (some (V.int w))).set j none = σ.set j none
    rw [List.set_set, List.set_set]
  · show ((σ.set j none).set j (some (V.int w)))[j]? = _
    rw [List.getElem?_set_self (by rw [List.length_set]; exact hj)]
/-- tuple([(wire, d[wire]) for wire in sorted(list(d))]) -/
theorem ed_ordered {a j : Nat} {p : Addr} {cs : Ctl} (hp : H p = some (.dK (encD cs))) (hs : σ[a]? = some (some (.ref p))) (ne : a ≠ j) (hj : j < σ.length) (hn : (keys cs).Nodup) (hl : cs.length < 64) :
    ED K (tCB (rTupP K) (tCons (tLc (iList K (tCB (rSorted K) (tCons (tCB rListD (tCons (tVar a) tNil)) tNil))) (gName j) tYes (tTupP (tCons (tVar j) (tCons (tDGet (tVar a) (tVar j)) tNil))) [j]) tNil)) σ H (encCs (srt cs)) := by
  refine ed_tupL ?_
  have ks : EL K (tCB (rSorted K) (tCons (tCB rListD (tCons (tVar a) tNil)) tNil)) σ H ((keys (srt cs)).map PyData.int) := by
    refine el_sort (ns := keys cs) (el_keys hp (ev_var hs)) (by rw [List.length_map]; exact hl) (asc_keys (asc_srt cs)) (fun x => ?_) hn
    rw [← has_key, ← has_key, has, has, look_srt]
  have e : (srt cs).map encC = (((keys (srt cs)).map PyData.int).filter fun _ => true).map fun d => match d with | .int w => .tuple [.int w, .int ((look (srt cs) w).getD 0)] | x => x := by
    rw [filt, List.map_map, List.map_map]
    refine List.map_congr_left fun c hc => ?_
    show encC c = .tuple [.int c.1, .int ((look (srt cs) c.1).getD 0)]
    rw [look_of (asc_srt cs) (show (c.1, c.2) ∈ srt cs from hc)]
    rfl
  have hlen : (keys (srt cs)).length ≤ 100000 := by
    have := len_le (asc_nodup (asc_srt cs)) (b := keys cs) fun x hx => by
      rw [← has_key, has, look_srt] at hx
      exact has_key.mp hx
    rw [List.length_map, List.length_map] at this
    rw [List.length_map]
    omega
  rw [e]
  refine el_lc (fun _ => true) _ (wd_lst ks) (fun i d v H' s hd q => ?_) (by rw [List.length_map]; exact hlen)
  obtain ⟨w, hw, rfl⟩ := map_at hd
  have ev : v = .int w := q.int_eq
  subst ev
  have wk : w ∈ keys (srt cs) := List.mem_of_getElem? hw
  have sj : ((σ.set j none).set j (some (V.int w)))[j]? = some (some (V.int w)) := by
    rw [List.getElem?_set_self (by rw [List.length_set]; exact hj)]
  have sa : ((σ.set j none).set j (some (V.int w)))[a]? = some (some (.ref p)) := by
    rw [List.getElem?_set_ne (Ne.symm ne), List.getElem?_set_ne (Ne.symm ne)]
    exact hs
  obtain ⟨x, hx⟩ := Option.isSome_iff_exists.mp (has_key.mpr wk)
  refine turn_name ?_ et_yes fun _ => ?_
  · show ((σ.set j none).set j (some (V.int w))).set j none = σ.set j none
    rw [List.set_set, List.set_set]
  · show ED K _ _ H' (.tuple [.int w, .int ((look (srt cs) w).getD 0)])
    rw [hx]
    refine ed_tup (ea_cons (ed_var sj (.int w)) (ea_cons (ed_dget ((DictAt.of hp).up s) (ev_var sa) (ed_var sj (.int w)) (by rw [← look_srt]; exact hx)) ea_nil)) ?_
    exact le_line (by simp)
end
end Bk

set_option Elab.async false
set_option linter.all false
set_option maxRecDepth 100000
set_option maxHeartbeats 4000000
namespace Bk
open PySem PySem.Spec PyProof.Rows L2

local macro_rules | `(tactic| walk_at "ed") => `(tactic| first
  | assumption
  | exact ed_int | exact ed_bl | exact ed_non | exact ed_str | exact ea_nil | exact ep_none | exact et_yes
  | (apply ed_var rfl; assumption)
  | (apply ea_cons; walk_at "ed"; walk_at "ed")
  | (apply ed_ix; walk_at "ed"; walk_at "ed"; rfl)
  | (apply et_B; walk_at "ed")
  | (apply et_T; walk_at "ed")
  | (apply ed_tup; walk_at "ed"; (apply le_line; simp only [List.length_cons, List.length_nil]; omega))
  | (apply ed_eqI; walk_at "ed"; walk_at "ed")
  | (apply ed_neI; walk_at "ed"; walk_at "ed")
  | (apply ed_eqS; walk_at "ed"; walk_at "ed")
  | (apply ed_neS; walk_at "ed"; walk_at "ed")
  | (apply ed_I0; walk_at "ed"; walk_at "ed")
  | (apply ed_B0; walk_at "ed"; walk_at "ed")
  | (apply ed_neg; walk_at "ed")
  | (apply ed_isN; walk_at "ed")
  | (apply ed_notN; walk_at "ed")
  | (apply ed_lenT; walk_at "ed")
  | (apply ep_some; walk_at "ed")
  | (apply ed_sl; walk_at "ed"; walk_at "ed"; walk_at "ed")
  | (apply el_lst; walk_at "ed"; (apply le_line; simp only [List.length_cons, List.length_nil]; omega))
  | (apply ed_tupL; walk_at "ed")
  | (apply et_not; walk_at "ed")
  | (apply ed_notV; walk_at "ed")
  | (apply ed_isInt; walk_at "ed")
  | (apply ed_isBool; walk_at "ed")
  | (apply ed_isTup; walk_at "ed")
  | (apply ed_isStr; walk_at "ed")
  | (apply ed_andF; walk_at "ed"; rfl)
  | (apply ed_andT; walk_at "ed"; rfl; walk_at "ed")
  | (apply ed_orT; walk_at "ed"; rfl)
  | (apply ed_orF; walk_at "ed"; rfl; walk_at "ed")
  | (apply et_andF; walk_at "ed"; rfl)
  | (apply et_andT; walk_at "ed"; rfl; walk_at "ed")
  | (apply et_orT; walk_at "ed"; rfl)
  | (apply et_orF; walk_at "ed"; rfl; walk_at "ed")
  | (apply ed_andV; walk_at "ed"; (intro _; walk_at "ed"))
  | (apply ed_orV; walk_at "ed"; (intro _; walk_at "ed"))
  | (apply et_and; walk_at "ed"; (intro _; walk_at "ed"))
  | (apply et_or; walk_at "ed"; (intro _; walk_at "ed")))

section
variable {P : Program} {w : World} {K : PySem.W.Frag} {mg : Str → Option Value} {base : Heap}
def encO {α : Type} (f : α → PyData) : Option α → PyData
  | some a => f a
  | none => .none
def R_merged (ds : List PyData) (d : PyData) : Prop := ∃ f s : Gate, GS f ∧ GS s ∧ ds = [encG f, encG s] ∧ d = encO encG (merged f s)
theorem len1 {l : List Int} (h : l.length = 1) : l = [l.headD 0] := by
  obtain ⟨a, rfl⟩ := List.length_eq_one_iff.mp h
  rfl
theorem isE (l : List Int) : l.isEmpty = decide (l = []) := by cases l <;> rfl
abbrev Nmerged : List Str := ["first", "second", "one", "two", "lacking", "others", "wire"]
theorem scmerged : FnScope Nmerged ["first", "second"] (defScope smerged) := ⟨rfl, rfl, rfl, by decide +kernel, rfl, by decide +kernel, by decide +kernel⟩
theorem ok_merged (T : Fx mg) (D : Df K mg "merged" smerged) : Cl P w K mg base 1 "merged" (spF K 2 R_merged) := by
  refine cl_F D scmerged rfl (fun _ _ _ _ _ _ us hl => match us, hl with | [_, _], _ => rfl) ?_
  intro f cdv A outer s H vs Q E ds d hr ht hR q
  obtain ⟨f1, s1, gf, gs, rfl, rfl⟩ := hR
  obtain ⟨v1, v2, rfl, h1, h2⟩ := ht.two
  refine ⟨_, (pss_cons (ps_if (pt_cmpR op_ne (pe_ix (kx_tup (K := K)) (pv 0) pe_int (fun _ _ => rfl)) (pe_ix (kx_tup (K := K)) (pv 1) pe_int (fun _ _ => rfl)) (nomark _)) (pss_one (ps_ret pe_non)) pss_nil)
      (pss_cons (ps_set (i := 2) scmerged.nd rfl (.inr rfl) (pe_callTy (kc_dic (K := K) rfl) (by rfl) T.dict bt_dict (pa_cons (pe_ix (kx_tup (K := K)) (pv 0) pe_int (fun _ _ => rfl)) pa_nil)))
      (pss_cons (ps_set (i := 3) scmerged.nd rfl (.inr rfl) (pe_callTy (kc_dic (K := K) rfl) (by rfl) T.dict bt_dict (pa_cons (pe_ix (kx_tup (K := K)) (pv 1) pe_int (fun _ _ => rfl)) pa_nil)))
      (Evl.pss_cut (ps_if (pt_cmpR op_lt (pe_callB call_lenD (by rfl) T.len bt_len (pa_cons (pv 2) pa_nil)) (pe_callB call_lenD (by rfl) T.len bt_len (pa_cons (pv 3) pa_nil)) (nomark _)) (pss_one (ps_asg (pe_tupP (pa_cons (pv 3) (pa_cons (pv 2) pa_nil))) (kg_tup (K := K) (n := 2) rfl (pgs_cons (pg_name (i := 2) scmerged.nd rfl (.inr rfl)) (pgs_cons (pg_name (i := 3) scmerged.nd rfl (.inr rfl)) pgs_nil))))) pss_nil)
      (pss_cons (ps_lock (ps_setLc (i := 4) (own := [("wire", 6)]) (g := gName 6) rfl scmerged.nd rfl rfl (sw_true rfl rfl rfl (by decide +kernel)) (pi_keys (pv 2)) (blkOk_by (own := [("wire", 6)]) (N := Nmerged) (sc := defScope smerged) (by decide +kernel)) (fun _ _ _ _ _ => (pg_name (i := 6) scmerged.nd rfl (.inl rfl))) (fun _ _ _ _ _ => pts_one (pt_cmp (pc_dnotin (hu_of hr) (pv 6) (pv 3)))) (fun _ _ _ _ _ => (pv 6))))
      (pss_cons (ps_lock (ps_setLc (i := 5) (own := [("wire", 6)]) (g := gName 6) rfl scmerged.nd rfl rfl (sw_true rfl rfl rfl (by decide +kernel)) (pi_keys (pv 2)) (blkOk_by (own := [("wire", 6)]) (N := Nmerged) (sc := defScope smerged) (by decide +kernel)) (fun _ _ _ _ _ => (pg_name (i := 6) scmerged.nd rfl (.inl rfl))) (fun _ _ _ _ _ => pts_one (PW.pt (pw_and (pt_cmp (pc_din (hu_of hr) (pv 6) (pv 3))) (pw_and1 (pt_cmpR op_ne (pe_dget (hu_of hr) (pv 2) (pv 6) (fun _ _ => rfl)) (pe_dget (hu_of hr) (pv 3) (pv 6) (fun _ _ => rfl)) (nomark _)))))) (fun _ _ _ _ _ => (pv 6))))
      (Evl.pss_cut (ps_if (PW.pt (pw_and (pt_cmpR op_eq (pe_callB call_lenD (by rfl) T.len bt_len (pa_cons (pv 2) pa_nil)) (pe_callB call_lenD (by rfl) T.len bt_len (pa_cons (pv 3) pa_nil)) (nomark _)) (pw_and (pt_cmpR (ko_eqD (K := K) hr.units) (pv 4) (pe_lst pa_nil) (nomark _)) (pw_and1 (pt_cmpR op_eq (pe_callB (kc_len (K := K)) (by rfl) T.len bt_len (pa_cons (pv 5) pa_nil)) pe_int (nomark _)))))) (pss_one (ps_expr (pe_dpop1 (pv 2) (pe_ix (kx_list (K := K)) (pv 5) pe_int (fun _ _ => rfl)) ⟨rfl, rfl, rfl, rfl⟩))) (pss_one (ps_if (PW.pt (pw_and (pt_cmpR op_eq (pe_callB call_lenD (by rfl) T.len bt_len (pa_cons (pv 2) pa_nil)) (pe_op op_add (pe_callB call_lenD (by rfl) T.len bt_len (pa_cons (pv 3) pa_nil)) pe_int) (nomark _)) (pw_and (pt_cmpR op_eq (pe_callB (kc_len (K := K)) (by rfl) T.len bt_len (pa_cons (pv 4) pa_nil)) pe_int (nomark _)) (pw_and1 (pt_cmpR (ko_eqD (K := K) hr.units) (pv 5) (pe_lst pa_nil) (nomark _)))))) (pss_one (ps_dput (hu_of hr) (pv 2) (pe_ix (kx_list (K := K)) (pv 4) pe_int (fun _ _ => rfl)) (pe_op op_sub pe_int (pe_dget (hu_of hr) (pv 2) (pe_ix (kx_list (K := K)) (pv 4) pe_int (fun _ _ => rfl)) (fun _ _ => rfl))) rfl)) (pss_one (ps_ret pe_non)))))
      (pss_one (ps_ret (pe_tupP (pa_cons (pe_ix (kx_tup (K := K)) (pv 0) pe_int (fun _ _ => rfl)) (pa_cons (pe_callTy (kc_tup (K := K)) (by rfl) T.tuple bt_tuple (pa_cons (pe_lc (own := [("wire", 6)]) (g := gName 6) (tt := tYes) rfl scmerged.nd (kp_list (K := K) (pe_callB (kc_srt (K := K)) (by rfl) T.sorted bt_sorted (pa_cons (pe_callTy (call_list_dK rfl) (by rfl) T.list bt_list (pa_cons (pv 2) pa_nil)) pa_nil))) (blkOk_by (own := [("wire", 6)]) (N := Nmerged) (sc := defScope smerged) (by decide +kernel)) (fun _ _ _ _ _ => (pg_name (i := 6) scmerged.nd rfl (.inl rfl))) (fun _ _ _ _ _ => pts_nil) (fun _ _ _ _ _ => (pe_tupP (pa_cons (pv 6) (pa_cons (pe_dget (hu_of hr) (pv 2) (pv 6) (fun _ _ => rfl)) pa_nil))))) pa_nil)) pa_nil)))))))))))), ?_⟩
  show KP _ [some v1, some v2, none, none, none, none, none] H
  have h1 : TD K H v1 (.tuple [.int f1.1, encCs f1.2]) := h1
  have i1 := h1
  have h2 : TD K H v2 (.tuple [.int s1.1, encCs s1.2]) := h2
  have l1 := gf.len
  have l2 := gs.len
  refine k_if1 (b := !decide (f1.1 = s1.1)) ?_ (fun hb => ?_) (fun hb => ?_)
  · walk_at "ed"
  · refine k_ret (K := K) (d := .none) ?_ fun v H1 s q1 => ?_
    · walk_at "ed"
    · have hne : f1.1 ≠ s1.1 := by simpa using hb
      refine q v H1 s ?_
      unfold merged
      rw [if_pos hne]
      exact q1
  have htt : ¬ f1.1 ≠ s1.1 := by simpa using hb
  dsimp only
  -- one, two
  refine k_setD (cs := f1.2) (edc_dict ?_ gf.nd) fun p1 H1 np1 e1 hp1 => ?_
  · walk_at "ed"
  have h1 := h1.up e1
  have h2 := h2.up e1
  dsimp only
  refine k_setD (cs := s1.2) (edc_dict ?_ gs.nd) fun p2 H2 np2 e2 hp2 => ?_
  · walk_at "ed"
  have ne12 : p1 ≠ p2 := ne_of_none hp1 np2
  have hp1 := e2 _ _ hp1
  have np2' : H p2 = none := e1.free np2
  have s02 : Same H H2 := e1.trans e2
  dsimp only
  -- the longer one first
  refine k_cut (fun σ' H' => ∃ pa pb, σ' = [some v1, some v2, some (.ref pa), some (.ref pb), none, none, none] ∧ Same H H' ∧ H' pa = some (.dK (encD (bigOf f1 s1))) ∧ H' pb = some (.dK (encD (smallOf f1 s1))) ∧ pa ≠ pb ∧ H pa = none ∧ H pb = none) ?_ ?_
  · refine k_if1 (b := decide (f1.2.length < s1.2.length)) ?_ (fun hb => ?_) (fun hb => ?_)
    · refine et_is (et_T (K := K) (ed_B0 (ed_lenD hp1 (ev_var rfl)) (ed_lenD hp2 (ev_var rfl)))) ?_
      simp
    · have hlt : f1.2.length < s1.2.length := by simpa using hb
      refine k_par (ev_var rfl) (ev_var rfl) fun H3 e3 => ?_
      dsimp only
      refine k_mid fun H4 e4 => ⟨p2, p1, rfl, s02.trans (e3.trans e4), ?_, ?_, Ne.symm ne12, np2', np1⟩
      · rw [bigOf, if_pos hlt]
        exact e4 _ _ (e3 _ _ hp2)
      · rw [smallOf, if_pos hlt]
        exact e4 _ _ (e3 _ _ hp1)
    · have hlt : ¬ f1.2.length < s1.2.length := by simpa using hb
      dsimp only
      refine k_mid fun H4 e4 => ⟨p1, p2, rfl, s02.trans e4, ?_, ?_, ne12, np1, np2'⟩
      · rw [bigOf, if_neg hlt]
        exact e4 _ _ hp1
      · rw [smallOf, if_neg hlt]
        exact e4 _ _ hp2
  rintro σ' H3 ⟨pa, pb, rfl, s03, ha, hb', nab, na, nb⟩
  have bigA : Asc (bigOf f1 s1) := by unfold bigOf; split; exact gs.asc; exact gf.asc
  have bigL : (bigOf f1 s1).length ≤ 30 := by unfold bigOf; split <;> assumption
  have hm : merged f1 s1 = (if (bigOf f1 s1).length = (smallOf f1 s1).length ∧ lackOf (bigOf f1 s1) (smallOf f1 s1) = [] ∧ (othersOf (bigOf f1 s1) (smallOf f1 s1)).length = 1 then
      some (f1.1, srt (del (bigOf f1 s1) ((othersOf (bigOf f1 s1) (smallOf f1 s1)).headD 0)))
    else if (bigOf f1 s1).length = (smallOf f1 s1).length + 1 ∧ (lackOf (bigOf f1 s1) (smallOf f1 s1)).length = 1 ∧ othersOf (bigOf f1 s1) (smallOf f1 s1) = [] then
      some (f1.1, srt (put (bigOf f1 s1) ((lackOf (bigOf f1 s1) (smallOf f1 s1)).headD 0) (1 - (look (bigOf f1 s1) ((lackOf (bigOf f1 s1) (smallOf f1 s1)).headD 0)).getD 0)))
    else none) := by
    unfold merged
    rw [if_neg htt]
  generalize bigOf f1 s1 = one at ha bigA bigL hm
  generalize smallOf f1 s1 = two at hb' hm
  have nd1 := asc_nodup bigA
  apply k_at
  -- lacking, others
  refine k_setLk (ds := (lackOf one two).map PyData.int) (K := K) ?_ fun pl ws H4 npl e4 hpl tl => ?_
  · refine el_keysIf (fun x => !has two x) ha rfl (by simp) (by omega) fun od x H' s' hx => ?_
    have db : DictAt H' pb two := .inl (s' _ _ (by rw [upd_ne (Ne.symm nab)]; exact hb'))
    exact et_B (K := K) (ed_dni db (ed_var rfl (.int x)) (ev_var rfl))
  have ew := tl.ints
  subst ew
  have ha := e4 _ _ ha
  have hb' := e4 _ _ hb'
  dsimp only
  refine k_setLk (ds := (othersOf one two).map PyData.int) (K := K) ?_ fun po ws H5 npo e5 hpo to => ?_
  · refine el_keysIf (fun x => has two x && !decide (look one x = look two x)) ha rfl (by simp) (by omega) fun od x H' s' hx => ?_
    have db : DictAt H' pb two := .inl (s' _ _ (by rw [upd_ne (Ne.symm nab)]; exact hb'))
    have da : DictAt H' pa one := .inr ⟨od, s' _ _ upd_same⟩
    obtain ⟨y, hy⟩ := Option.isSome_iff_exists.mp (has_key.mpr hx)
    refine et_and (et_B (K := K) (ed_din db (ed_var rfl (.int x)) (ev_var rfl))) fun h2 => ?_
    obtain ⟨z, hz⟩ := Option.isSome_iff_exists.mp h2
    refine et_is (et_T (K := K) (ed_neI (ed_dget da (ev_var rfl) (ed_var rfl (.int x)) hy) (ed_dget db (ev_var rfl) (ed_var rfl (.int x)) hz))) ?_
    rw [hy, hz]
    simp
  have ew := to.ints
  subst ew
  have ha := e5 _ _ ha
  have hb' := e5 _ _ hb'
  have hpl := e5 _ _ hpl
  have s05 : Same H H5 := s03.trans (e4.trans e5)
  have npa_l : pa ≠ pl := fun z => by rw [z, hpl] at ha; cases ha
  have npa_o : pa ≠ po := fun z => by rw [z, hpo] at ha; cases ha
  dsimp only
  -- the change
  refine k_cut (fun σ' H' => ∃ res, σ' = [some v1, some v2, some (.ref pa), some (.ref pb), some (.ref pl), some (.ref po), none] ∧ Same H H' ∧ H' pa = some (.dK (encD res)) ∧ (keys res).Nodup ∧ res.length < 64 ∧ merged f1 s1 = some (f1.1, srt res)) ?_ ?_
  · refine k_if (b := decide (one.length = two.length ∧ lackOf one two = [] ∧ (othersOf one two).length = 1)) ?_ (fun hc => ?_) (fun hc => ?_)
    · refine et_is (et_and (et_T (K := K) (ed_eqI (ed_lenD ha (ev_var rfl)) (ed_lenD hb' (ev_var rfl)))) fun _ => et_and (et_T (K := K) (ed_nilV hpl (ev_var rfl))) fun _ => et_T (K := K) (ed_eqI (ed_lenV hpo (ev_var rfl)) ed_int)) ?_
      rw [isE, List.length_map]
      by_cases x1 : one.length = two.length <;> by_cases x2 : lackOf one two = [] <;> by_cases x3 : (othersOf one two).length = 1 <;> simp [x1, x2, x3] <;> omega
    · have hc' := of_decide_eq_true hc
      obtain ⟨c1, c2, c3⟩ := hc'
      have eo := len1 c3
      have mo : (othersOf one two).headD 0 ∈ keys one := by
        have : (othersOf one two).headD 0 ∈ othersOf one two := by
          rw [eo]
          simp
        exact (List.mem_filter.mp this).1
      obtain ⟨y, hy⟩ := Option.isSome_iff_exists.mp (has_key.mpr mo)
      refine k_dpop (K := K) ha (ev_var rfl) (w := (othersOf one two).headD 0) (x := y) ?_ hy fun H6 e6 => ?_
      · refine ed_ixV hpo (TDs.of_ints _) (ev_var rfl) ed_int ?_
        rw [eo]
        rfl
      · refine ⟨del one ((othersOf one two).headD 0), rfl, same_mut (s05.trans e6) na, upd_same, nodup_del nd1 _, ?_, ?_⟩
        · have := List.length_filter_le (fun c : Int × Int => !decide (c.1 = (othersOf one two).headD 0)) one
          unfold del
          omega
        · rw [hm, if_pos ⟨c1, c2, c3⟩]
    · have hc' := of_decide_eq_false hc
      refine k_if (b := decide (one.length = two.length + 1 ∧ (lackOf one two).length = 1 ∧ othersOf one two = [])) ?_ (fun hd => ?_) (fun hd => ?_)
      · refine et_is (et_and (et_T (K := K) (ed_eqI (ed_lenD ha (ev_var rfl)) (ed_I0 (ed_lenD hb' (ev_var rfl)) ed_int))) fun _ => et_and (et_T (K := K) (ed_eqI (ed_lenV hpl (ev_var rfl)) ed_int)) fun _ => et_T (K := K) (ed_nilV hpo (ev_var rfl))) ?_
        rw [isE, List.length_map]
        by_cases x1 : one.length = two.length + 1 <;> by_cases x2 : othersOf one two = [] <;> by_cases x3 : (lackOf one two).length = 1 <;> simp [x1, x2, x3] <;> omega
      · obtain ⟨c1, c2, c3⟩ := of_decide_eq_true hd
        have eo := len1 c2
        have mo : (lackOf one two).headD 0 ∈ keys one := by
          have : (lackOf one two).headD 0 ∈ lackOf one two := by
            rw [eo]
            simp
          exact (List.mem_filter.mp this).1
        obtain ⟨y, hy⟩ := Option.isSome_iff_exists.mp (has_key.mpr mo)
        have ix : ∀ H', Same H5 H' → ED K (tOp (rIxL K) (tVar 4) (tC (.int 0))) [some v1, some v2, some (.ref pa), some (.ref pb), some (.ref pl), some (.ref po), none] H' (.int ((lackOf one two).headD 0)) := fun H' s' => by
          refine ed_ixV (s' _ _ hpl) (TDs.of_ints _) (ev_var rfl) ed_int ?_
          rw [eo]
          rfl
        refine k_dput (K := K) ha (ev_var rfl) (w := (lackOf one two).headD 0) (x := 1 - y) (ix H5 (Same.refl _)) ?_ (by omega) fun H6 e6 => ?_
        · exact ed_I0 ed_int (ed_dget (DictAt.of ha) (ev_var rfl) (ix H5 (Same.refl _)) hy)
        · refine ⟨put one ((lackOf one two).headD 0) (1 - y), rfl, same_mut (s05.trans e6) na, upd_same, nodup_put nd1 _ _, ?_, ?_⟩
          · unfold put
            rw [if_pos (has_key.mpr mo), List.length_map]
            omega
          · rw [hm, if_neg hc', if_pos ⟨c1, c2, c3⟩, hy]
            rfl
      · have hd' := of_decide_eq_false hd
        refine k_ret (K := K) (d := .none) ?_ fun v H1 s1' q1 => ?_
        · walk_at "ed"
        · refine q v H1 (s05.trans s1') ?_
          rw [hm, if_neg hc', if_neg hd']
          exact q1
  · rintro σ' H6 ⟨res, rfl, s06, hres, ndr, lr, em⟩
    have h1 := i1.up s06
    apply k_at
    refine k_ret (K := K) (d := encG (f1.1, srt res)) ?_ fun v H1 s1' q1 => ?_
    · refine ed_tup (ea_cons ?_ (ea_cons (ed_ordered hres rfl (by decide) (by simp) ndr lr) ea_nil)) ?_
      · walk_at "ed"
      · exact le_line (by simp)
    · refine q v H1 (s06.trans s1') ?_
      rw [em]
      exact q1
end
end Bk

set_option Elab.async false
set_option linter.all false
set_option maxRecDepth 100000
set_option maxHeartbeats 4000000
namespace Bk
open PySem PySem.Spec PyProof.Rows L2

local macro_rules | `(tactic| walk_at "ed") => `(tactic| first
  | assumption
  | exact ed_int | exact ed_bl | exact ed_non | exact ed_str | exact ea_nil | exact ep_none | exact et_yes
  | (apply ed_var rfl; assumption)
  | (apply ea_cons; walk_at "ed"; walk_at "ed")
  | (apply ed_ix; walk_at "ed"; walk_at "ed"; rfl)
  | (apply et_B; walk_at "ed")
  | (apply et_T; walk_at "ed")
  | (apply ed_tup; walk_at "ed"; (apply le_line; simp only [List.length_cons, List.length_nil]; omega))
  | (apply ed_eqI; walk_at "ed"; walk_at "ed")
  | (apply ed_neI; walk_at "ed"; walk_at "ed")
  | (apply ed_eqS; walk_at "ed"; walk_at "ed")
  | (apply ed_neS; walk_at "ed"; walk_at "ed")
  | (apply ed_I0; walk_at "ed"; walk_at "ed")
  | (apply ed_B0; walk_at "ed"; walk_at "ed")
  | (apply ed_neg; walk_at "ed")
  | (apply ed_isN; walk_at "ed")
  | (apply ed_notN; walk_at "ed")
  | (apply ed_lenT; walk_at "ed")
  | (apply ep_some; walk_at "ed")
  | (apply ed_sl; walk_at "ed"; walk_at "ed"; walk_at "ed")
  | (apply el_lst; walk_at "ed"; (apply le_line; simp only [List.length_cons, List.length_nil]; omega))
  | (apply ed_tupL; walk_at "ed")
  | (apply et_not; walk_at "ed")
  | (apply ed_notV; walk_at "ed")
  | (apply ed_isInt; walk_at "ed")
  | (apply ed_isBool; walk_at "ed")
  | (apply ed_isTup; walk_at "ed")
  | (apply ed_isStr; walk_at "ed")
  | (apply ed_andF; walk_at "ed"; rfl)
  | (apply ed_andT; walk_at "ed"; rfl; walk_at "ed")
  | (apply ed_orT; walk_at "ed"; rfl)
  | (apply ed_orF; walk_at "ed"; rfl; walk_at "ed")
  | (apply et_andF; walk_at "ed"; rfl)
  | (apply et_andT; walk_at "ed"; rfl; walk_at "ed")
  | (apply et_orT; walk_at "ed"; rfl)
  | (apply et_orF; walk_at "ed"; rfl; walk_at "ed")
  | (apply ed_andV; walk_at "ed"; (intro _; walk_at "ed"))
  | (apply ed_orV; walk_at "ed"; (intro _; walk_at "ed"))
  | (apply et_and; walk_at "ed"; (intro _; walk_at "ed"))
  | (apply et_or; walk_at "ed"; (intro _; walk_at "ed")))

theorem puts_snoc (c : Int × Int) : ∀ (l cs : Ctl), puts cs (l ++ [c]) = put (puts cs l) c.1 c.2
  | [], _ => rfl
  | p :: r, cs => by rw [List.cons_append, puts, puts_snoc c r, puts]
theorem put_len (cs : Ctl) (w v : Int) : (put cs w v).length ≤ cs.length + 1 := by
  unfold put
  split
  · rw [List.length_map]; omega
  · rw [List.length_append]; simp
theorem puts_len : ∀ (l cs : Ctl), (puts cs l).length ≤ cs.length + l.length
  | [], cs => by simp [puts]
  | p :: r, cs => by
    have h1 := puts_len r (put cs p.1 p.2)
    have h2 := put_len cs p.1 p.2
    rw [puts, List.length_cons]
    omega
theorem del_len (cs : Ctl) (w : Int) : (del cs w).length ≤ cs.length := List.length_filter_le _ _
theorem srt_snoc {cs : Ctl} {w x : Int} (ha : Asc cs) (hn : look cs w = none) : srt (cs ++ [(w, x)]) = ins (w, x) cs := by
  refine asc_uniq (asc_srt _) (asc_ins ha) fun u => ?_
  rw [look_srt, look_app, look_ins]
  show (look cs u).or (if w = u then some x else none) = if w = u then some x else look cs u
  by_cases e : w = u
  · subst e
    rw [hn]
    simp
  · simp [e]
section
variable {P : Program} {w : World} {K : PySem.W.Frag} {mg : Str → Option Value} {base : Heap}
theorem TD.C_inj {H : Hp} {v : V} {p q : Int × Int} (h : TD K H v (encC p)) (h' : TD K H v (encC q)) : p = q := by
  obtain ⟨a, xs, rfl, ⟨o, _, e1⟩, t1⟩ := h.tup_of
  obtain ⟨b, ys, e2, ⟨o', _, e3⟩, t2⟩ := h'.tup_of
  cases e2
  rw [e1] at e3
  cases e3
  have a1 : xs = [V.int p.1, V.int p.2] := TDs.ints (ns := [p.1, p.2]) t1
  have a2 : xs = [V.int q.1, V.int q.2] := TDs.ints (ns := [q.1, q.2]) t2
  rw [a1] at a2
  simp only [List.cons.injEq, V.int.injEq, and_true] at a2
  exact Prod.ext a2.1 a2.2
theorem TDs.of_all {H : Hp} {f : V → PyData} : ∀ {ys : List V}, (∀ y ∈ ys, TD K H y (f y)) → TDs K H ys (ys.map f)
  | [], _ => .nil
  | y :: ys, h => .cons (h y List.mem_cons_self) (TDs.of_all fun z hz => h z (List.mem_cons_of_mem _ hz))
theorem TDs.mem {H : Hp} : ∀ {cs : Ctl} {vs : List V} {v : V}, TDs K H vs (cs.map encC) → v ∈ vs → ∃ c ∈ cs, TD K H v (encC c)
  | [], _, _, h, m => by cases h; cases m
  | c :: cs, _, v, h, m => by
    cases h with
    | cons h1 h2 =>
      rcases List.mem_cons.mp m with rfl | m
      · exact ⟨c, List.mem_cons_self, h1⟩
      · obtain ⟨c', m', h'⟩ := TDs.mem h2 m
        exact ⟨c', List.mem_cons_of_mem _ m', h'⟩
theorem TDs.mapk {H : Hp} {k : V → Int × Int} (hk : ∀ v c, TD K H v (encC c) → k v = c) : ∀ {cs : Ctl} {vs : List V}, TDs K H vs (cs.map encC) → vs.map k = cs
  | [], _, h => by cases h; rfl
  | c :: cs, _, h => by
    cases h with
    | cons h1 h2 => rw [List.map_cons, hk _ _ h1, TDs.mapk hk h2]
open Classical in
/-- sorted(t), t a tuple of pairs with different firsts -/
theorem el_sortT {H : Hp} {σ : L2.St} {ta : TE} {cs : Ctl} (h : ED K ta σ H (encCs cs)) (hn : (keys cs).Nodup) : EL K (tCB (rSortT K) (tCons ta tNil)) σ H ((srt cs).map encC) := fun H1 a Q k => h H1 a _ fun x H2 b q => by
  obtain ⟨p, vs, rfl, q1, q2⟩ := q.tup_of
  let kk : V → Int × Int := fun v => if h : ∃ c, TD K H2 v (encC c) then Classical.choose h else (0, 0)
  have hk : ∀ v c, TD K H2 v (encC c) → kk v = c := fun v c hv => by
    have ex : ∃ c, TD K H2 v (encC c) := ⟨c, hv⟩
    have e : kk v = Classical.choose ex := dif_pos ex
    rw [e]
    exact TD.C_inj (Classical.choose_spec ex) hv
  refine ⟨p, vs, kk, rfl, q1.sq, fun x hx => ?_, fun ys l so st nl => ?_⟩
  · obtain ⟨c, _, hc⟩ := q2.mem hx
    have e := hk x c hc
    obtain ⟨t, xs, rfl, r1, r2⟩ := hc.tup_of
    have a1 : xs = [V.int c.1, V.int c.2] := TDs.ints (ns := [c.1, c.2]) r2
    subst a1
    exact ⟨t, rfl, by rw [e]; exact r1.sq⟩
  · have em := q2.mapk hk
    have pm : (ys.map kk).Perm cs := by
      rw [← em]
      exact st.perm.map kk
    have ndy : (keys (ys.map kk)).Nodup := (pm.map Prod.fst).nodup_iff.mpr hn
    have asc : Asc (ys.map kk) := by
      have s1 : (ys.map kk).Pairwise fun x y => SrtO.lexB y x = false := List.pairwise_map.mpr so
      have s2 : (ys.map kk).Pairwise fun x y => x.1 ≠ y.1 := List.pairwise_map.mp ndy
      refine (s1.and s2).imp fun {x y} ⟨h1, h2⟩ => ?_
      have h3 := SrtO.lexB_no.mp h1
      omega
    have e : ys.map kk = srt cs := by
      refine asc_uniq asc (asc_srt cs) fun u => ?_
      rw [look_srt]
      cases q : look (ys.map kk) u with
      | some x =>
        have m : (u, x) ∈ cs := pm.mem_iff.mp (look_mem q)
        rw [← look_srt]
        refine (look_of (asc_srt cs) ?_).symm
        have hh : look (srt cs) u ≠ none := by
          intro z
          rw [look_srt] at z
          have := has_key.mpr (show u ∈ keys cs from List.mem_map.mpr ⟨_, m, rfl⟩)
          rw [has, z] at this
          cases this
        obtain ⟨y, hy⟩ := Option.ne_none_iff_exists'.mp hh
        have my : (u, y) ∈ cs := by
          rw [look_srt] at hy
          exact look_mem hy
        have m1 : (u, y) ∈ ys.map kk := pm.mem_iff.mpr my
        have e1 := look_of asc m1
        rw [q] at e1
        have e2 : x = y := Option.some.inj e1
        rw [e2]
        exact look_mem hy
      | none =>
        cases q' : look cs u with
        | none => rfl
        | some x =>
          have m : (u, x) ∈ ys.map kk := pm.mem_iff.mpr (look_mem q')
          rw [look_of asc m] at q
          cases q
    refine k l ys _ (b.free nl) (b.trans (same_new nl)) upd_same ?_
    rw [← e, List.map_map]
    refine TDs.up (TDs.of_all fun y hy => ?_) (same_new nl)
    obtain ⟨c, _, hc⟩ := q2.mem (st.perm.mem_iff.mp hy)
    show TD K H2 y (encC (kk y))
    rw [hk y c hc]
    exact hc
def R_split (ds : List PyData) (d : PyData) : Prop := ∃ (g : Gate) (x : Int), GS g ∧ ds = [encG g, .int x] ∧ d = encO encGs (splitG g x)
abbrev Nsplit : List Str := ["gate", "wire", "value"]
theorem scsplit : FnScope Nsplit ["gate", "wire"] (defScope ssplit) := ⟨rfl, rfl, rfl, by decide +kernel, rfl, by decide +kernel, by decide +kernel⟩
theorem ok_split (T : Fx mg) (D : Df K mg "split" ssplit) (c_wires_of : Cl P w K mg base 1 "wires_of" (spL K 1 R_wires)) : Cl P w K mg base 2 "split" (spF K 2 R_split) := by
  refine cl_F D scsplit rfl (fun _ _ _ _ _ _ us hl => match us, hl with | [_, _], _ => rfl) ?_
  intro f cdv A outer s H vs Q E ds d hr ht hR q
  obtain ⟨g, x, gg, rfl, rfl⟩ := hR
  obtain ⟨v1, v2, rfl, h1, h2⟩ := ht.two
  refine ⟨_, (pss_cons (ps_if (pt_cmpR (ko_in (K := K)) (pv 1) (pe_cl c_wires_of hr (by omega) (by rfl) (pa_cons (pv 0) pa_nil)) (by rfl)) (pss_one (ps_ret pe_non)) pss_nil)
      (pss_one (ps_ret (pe_callTy (kc_tup (K := K)) (by rfl) T.tuple bt_tuple (pa_cons (pe_lc (own := [("value", 2)]) (g := gName 2) (tt := tYes) rfl scsplit.nd (kp_tup (K := K) (pe_tupP (pa_cons pe_int (pa_cons pe_int pa_nil)))) (blkOk_by (own := [("value", 2)]) (N := Nsplit) (sc := defScope ssplit) (by decide +kernel)) (fun _ _ _ _ _ => (pg_name (i := 2) scsplit.nd rfl (.inl rfl))) (fun _ _ _ _ _ => pts_nil) (fun _ _ _ _ _ => (pe_tupP (pa_cons (pe_ix (kx_tup (K := K)) (pv 0) pe_int (fun _ _ => rfl)) (pa_cons (pe_callTy (kc_tup (K := K)) (by rfl) T.tuple bt_tuple (pa_cons (pe_callB (kc_srtT (K := K)) (by rfl) T.sorted bt_sorted (pa_cons (pe_op (ko_cat (K := K)) (pe_ix (kx_tup (K := K)) (pv 0) pe_int (fun _ _ => rfl)) (pe_tupP (pa_cons (pe_tupP (pa_cons (pv 1) (pa_cons (pv 2) pa_nil))) pa_nil))) pa_nil)) pa_nil)) pa_nil))))) pa_nil))))), ?_⟩
  show KP _ [some v1, some v2, none] H
  have i1 : TD K H v1 (.tuple [.int g.1, encCs g.2]) := h1
  have lg := gg.len
  have hwx := h2.int_eq
  subst hwx
  refine k_if1 (b := decide (x = g.1 ∨ has g.2 x = true)) ?_ (fun hb => ?_) (fun hb => ?_)
  · refine et_is (et_T (ed_inL (neg := false) (i := x) (ns := g.1 :: keys g.2) (K := K) (ed_var rfl h2) (el_call (R := R_wires) (ds := [encG g]) ?_ ⟨g, by omega, rfl, rfl⟩))) ?_
    · walk_at "ed"
    · rw [List.any_cons, any_has]
      by_cases e : x = g.1
      · simp [e]
      · have e' : ¬ g.1 = x := fun z => e z.symm
        simp [e, e']
  · refine k_ret (K := K) (d := .none) ?_ fun v H1 s q1 => ?_
    · walk_at "ed"
    · refine q v H1 s ?_
      unfold splitG
      rw [if_pos (of_decide_eq_true hb)]
      exact q1
  · have hn := of_decide_eq_false hb
    have hl : look g.2 x = none := has_no.mp (by
      cases z : has g.2 x with
      | false => rfl
      | true => exact absurd (.inr z) hn)
    have es : splitG g x = some [(g.1, ins (x, 0) g.2), (g.1, ins (x, 1) g.2)] := by
      unfold splitG
      rw [if_neg hn]
    dsimp only
    refine k_ret (K := K) (d := encGs [(g.1, ins (x, 0) g.2), (g.1, ins (x, 1) g.2)]) ?_ fun v H1 s q1 => ?_
    · refine ed_tupL ?_
      have e : [(g.1, ins (x, 0) g.2), (g.1, ins (x, 1) g.2)].map encG = (([PyData.int 0, .int 1]).filter fun _ => true).map fun d => match d with | .int y => encG (g.1, ins (x, y) g.2) | z => z := rfl
      rw [e]
      refine el_lc (fun _ => true) _ (wd_mono (wd_tup (ds := [.int 0, .int 1]) ?_) fun _ _ => wx_same) (fun i d v' H' s' hd q => ?_) (by simp)
      · walk_at "ed"
      · obtain ⟨y, rfl⟩ : ∃ y, d = .int y := by
          have m := List.mem_of_getElem? hd
          rcases List.mem_cons.mp m with rfl | m
          · exact ⟨_, rfl⟩
          · exact ⟨_, List.mem_singleton.mp m⟩
        have i1 := i1.up s'
        refine turn_name rfl et_yes fun _ => ?_
        refine ed_tup (ea_cons ?_ (ea_cons (ed_tupL ?_) ea_nil)) (le_line (by simp))
        · walk_at "ed"
        · rw [← srt_snoc gg.asc hl]
          refine el_sortT (cs := g.2 ++ [(x, y)]) ?_ ?_
          · unfold encCs
            rw [List.map_append]
            refine ed_cat (ds := g.2.map encC) (es := [encC (x, y)]) ?_ ?_ ?_
            · walk_at "ed"
            · refine ed_tup (ea_cons (ed_tup (ea_cons (ed_var rfl (.int x)) (ea_cons (ed_var rfl q) ea_nil)) (le_line (by simp))) ea_nil) (le_line (by simp))
            · refine le_line ?_
              rw [List.length_map]
              show g.2.length + 1 ≤ 100000
              omega
          · rw [keys, List.map_append]
            refine List.nodup_append.mpr ⟨gg.nd, by simp, fun a ha b hb => ?_⟩
            have eb : b = x := by simpa using hb
            rw [eb]
            intro e
            rw [e] at ha
            have := has_key.mpr ha
            rw [has, hl] at this
            cases this
    · refine q v H1 s ?_
      rw [es]
      exact q1
end
end Bk

set_option Elab.async false
set_option linter.all false
set_option maxRecDepth 100000
set_option maxHeartbeats 4000000
namespace Bk
open PySem PySem.Spec PyProof.Rows L2

local macro_rules | `(tactic| walk_at "ed") => `(tactic| first
  | assumption
  | exact ed_int | exact ed_bl | exact ed_non | exact ed_str | exact ea_nil | exact ep_none | exact et_yes
  | (apply ed_var rfl; assumption)
  | (apply ea_cons; walk_at "ed"; walk_at "ed")
  | (apply ed_ix; walk_at "ed"; walk_at "ed"; rfl)
  | (apply et_B; walk_at "ed")
  | (apply et_T; walk_at "ed")
  | (apply ed_tup; walk_at "ed"; (apply le_line; simp only [List.length_cons, List.length_nil]; omega))
  | (apply ed_eqI; walk_at "ed"; walk_at "ed")
  | (apply ed_neI; walk_at "ed"; walk_at "ed")
  | (apply ed_eqS; walk_at "ed"; walk_at "ed")
  | (apply ed_neS; walk_at "ed"; walk_at "ed")
  | (apply ed_I0; walk_at "ed"; walk_at "ed")
  | (apply ed_B0; walk_at "ed"; walk_at "ed")
  | (apply ed_neg; walk_at "ed")
  | (apply ed_isN; walk_at "ed")
  | (apply ed_notN; walk_at "ed")
  | (apply ed_lenT; walk_at "ed")
  | (apply ep_some; walk_at "ed")
  | (apply ed_sl; walk_at "ed"; walk_at "ed"; walk_at "ed")
  | (apply el_lst; walk_at "ed"; (apply le_line; simp only [List.length_cons, List.length_nil]; omega))
  | (apply ed_tupL; walk_at "ed")
  | (apply et_not; walk_at "ed")
  | (apply ed_notV; walk_at "ed")
  | (apply ed_isInt; walk_at "ed")
  | (apply ed_isBool; walk_at "ed")
  | (apply ed_isTup; walk_at "ed")
  | (apply ed_isStr; walk_at "ed")
  | (apply ed_andF; walk_at "ed"; rfl)
  | (apply ed_andT; walk_at "ed"; rfl; walk_at "ed")
  | (apply ed_orT; walk_at "ed"; rfl)
  | (apply ed_orF; walk_at "ed"; rfl; walk_at "ed")
  | (apply et_andF; walk_at "ed"; rfl)
  | (apply et_andT; walk_at "ed"; rfl; walk_at "ed")
  | (apply et_orT; walk_at "ed"; rfl)
  | (apply et_orF; walk_at "ed"; rfl; walk_at "ed")
  | (apply ed_andV; walk_at "ed"; (intro _; walk_at "ed"))
  | (apply ed_orV; walk_at "ed"; (intro _; walk_at "ed"))
  | (apply et_and; walk_at "ed"; (intro _; walk_at "ed"))
  | (apply et_or; walk_at "ed"; (intro _; walk_at "ed")))

section
variable {P : Program} {w : World} {K : PySem.W.Frag} {mg : Str → Option Value} {base : Heap}
def R_passed (ds : List PyData) (d : PyData) : Prop := ∃ f s : Gate, GS f ∧ GS s ∧ ds = [encG f, encG s] ∧ d = encO (fun m => encGs [s, f, m]) (passed f s)
/-- the controls' dict is filled by the controls of the first gate -/
theorem k_fill {H : Hp} {σ : L2.St} {D : Ends} {tl : TE} {p : Addr} {cs ps : Ctl} {a b c : Nat} (hp : H p = some (.dK (encD cs)))
    (hw : WD K Wx (iTup K tl) σ H (ps.map encC)) (hc : σ[c]? = some (some (.ref p))) (hab : a ≠ b) (hac : a ≠ c) (hbc : b ≠ c) (ha : a < σ.length) (hb : b < σ.length) (hz : cs.length + ps.length ≤ 10000)
    (k : ∀ x y Hs H1, Same H Hs → Wx Hs H1 → (∀ q o, q ≠ p → Hs q = some o → H1 q = some o) → H1 p = some (.dK (encD (puts cs ps))) → D.nx ((σ.set a x).set b y) H1) :
    KP (tFor (iTup K tl) (gTup K 2 (gCons (gName a) (gCons (gName b) gNil))) (sDPut (tVar c) (tVar a) (tVar b)) D) σ H := k_for hw fun Hs s => by
  refine ⟨fun i σ' H' => ∃ x y, σ' = (σ.set a x).set b y ∧ Wx Hs H' ∧ (∀ q o, q ≠ p → Hs q = some o → H' q = some o) ∧ H' p = some (.dK (encD (puts cs (ps.take i)))), ⟨σ[a], σ[b], ?_, Wx.refl _, fun _ _ _ h => h, s _ _ hp⟩, fun i σ' H' h => ?_, fun i d v σ' H' hd q h => ?_, fun σ' H' h => ?_⟩
  · rw [List.set_getElem_self, List.set_getElem_self]
  · obtain ⟨x, y, _, h, _⟩ := h
    exact h
  · obtain ⟨e, he, rfl⟩ := map_at hd
    obtain ⟨x, y, rfl, h1, h2, h3⟩ := h
    obtain ⟨t, xs, rfl, q1, q2⟩ := q.tup_of
    obtain ⟨x1, x2, rfl, r1, r2⟩ := q2.two
    have ex := r1.int_eq
    have ey := r2.int_eq
    subst ex ey
    refine ⟨t, _, rfl, q1.sq, rfl, _, _, rfl, _, _, rfl, rfl, ?_⟩
    have hs : ((((σ.set a x).set b y).set a (some (V.int e.1))).set b (some (V.int e.2))) = (σ.set a (some (V.int e.1))).set b (some (V.int e.2)) := by
      rw [List.set_comm _ _ hab.symm, List.set_set, List.set_set]
    have lz : (puts cs (ps.take i)).length < 100000 := by
      have h4 := puts_len (ps.take i) cs
      rw [List.length_take] at h4
      omega
    rw [hs]
    have la : (σ.set a (some (V.int e.1))).length = σ.length := List.length_set
    refine k_at (k_dput (K := K) (cs := puts cs (ps.take i)) (w := e.1) (x := e.2) h3 (ev_var ?_) (ed_var (v := .int e.1) ?_ (.int _)) (ed_var (v := .int e.2) ?_ (.int _)) lz fun H3 s3 => ?_)
    · rw [List.getElem?_set_ne hbc, List.getElem?_set_ne hac]
      exact hc
    · rw [List.getElem?_set_ne hab.symm, List.getElem?_set_self ha]
    · rw [List.getElem?_set_self (by rw [la]; exact hb)]
    · refine ⟨_, _, rfl, h1.trans ((wx_same s3).trans (wx_dK (s3 _ _ h3))), fun q o nq hq => ?_, ?_⟩
      · rw [upd_ne nq]
        exact s3 _ _ (h2 q o nq hq)
      · rw [upd_same, List.take_add_one, he]
        show some (HO.dK (encD (put (puts cs (ps.take i)) e.1 e.2))) = some (HO.dK (encD (puts cs (ps.take i ++ [e]))))
        rw [puts_snoc]
  · obtain ⟨x, y, rfl, h1, h2, h3⟩ := h
    rw [List.length_map, List.take_length] at h3
    exact k x y Hs H' s h1 h2 h3
abbrev Npassed : List Str := ["first", "second", "controls", "wire", "value", "more"]
theorem scpassed : FnScope Npassed ["first", "second"] (defScope spassed) := ⟨rfl, rfl, rfl, by decide +kernel, rfl, by decide +kernel, by decide +kernel⟩
theorem ok_passed (T : Fx mg) (D : Df K mg "passed" spassed) (c_wires_of : Cl P w K mg base 1 "wires_of" (spL K 1 R_wires)) (c_conflict : Cl P w K mg base 1 "conflict" (spF K 2 R_conf)) : Cl P w K mg base 2 "passed" (spF K 2 R_passed) := by
  refine cl_F D scpassed rfl (fun _ _ _ _ _ _ us hl => match us, hl with | [_, _], _ => rfl) ?_
  intro f cdv A outer s H vs Q E ds d hr ht hR q
  obtain ⟨f1, s1, gf, gs, rfl, rfl⟩ := hR
  obtain ⟨v1, v2, rfl, h1, h2⟩ := ht.two
  refine ⟨_, (pss_cons (ps_set (i := 2) scpassed.nd rfl (.inr rfl) (pe_callTy (kc_dic (K := K) rfl) (by rfl) T.dict bt_dict (pa_cons (pe_ix (kx_tup (K := K)) (pv 1) pe_int (fun _ _ => rfl)) pa_nil)))
      (pss_cons (ps_if (PW.pt (pw_or (pt_cmp (pc_dnotin (hu_of hr) (pe_ix (kx_tup (K := K)) (pv 0) pe_int (fun _ _ => rfl)) (pv 2))) (pw_or (pt_cmpR (ko_in (K := K)) (pe_ix (kx_tup (K := K)) (pv 1) pe_int (fun _ _ => rfl)) (pe_slice (ks_list (K := K)) (pe_cl c_wires_of hr (by omega) (by rfl) (pa_cons (pv 0) pa_nil)) (po_some pe_int) po_none) (by rfl)) (pw_or1 (pt_val (pe_cl c_conflict hr (by omega) (by rfl) (pa_cons (pv 0) (pa_cons (pv 1) pa_nil)))))))) (pss_one (ps_ret pe_non)) pss_nil)
      (pss_cons (ps_expr (pe_dpop1 (pv 2) (pe_ix (kx_tup (K := K)) (pv 0) pe_int (fun _ _ => rfl)) ⟨rfl, rfl, rfl, rfl⟩))
      (pss_cons (ps_for PassesOwn.never rfl (kp_tup (K := K) (pe_ix (kx_tup (K := K)) (pv 0) pe_int (fun _ _ => rfl))) (kg_tup (K := K) (n := 2) rfl (pgs_cons (pg_name (i := 3) scpassed.nd rfl (.inl rfl)) (pgs_cons (pg_name (i := 4) scpassed.nd rfl (.inl rfl)) pgs_nil))) (pss_one (ps_dput (hu_of hr) (pv 2) (pv 3) (pv 4) rfl)))
      (pss_cons (ps_set (i := 5) scpassed.nd rfl (.inl rfl) (pe_tupP (pa_cons (pe_ix (kx_tup (K := K)) (pv 1) pe_int (fun _ _ => rfl)) (pa_cons (pe_callTy (kc_tup (K := K)) (by rfl) T.tuple bt_tuple (pa_cons (pe_lc (own := [("wire", 3)]) (g := gName 3) (tt := tYes) rfl scpassed.nd (kp_list (K := K) (pe_callB (kc_srt (K := K)) (by rfl) T.sorted bt_sorted (pa_cons (pe_callTy (call_list_dK rfl) (by rfl) T.list bt_list (pa_cons (pv 2) pa_nil)) pa_nil))) (blkOk_by (own := [("wire", 3)]) (N := Npassed) (sc := defScope spassed) (by decide +kernel)) (fun _ _ _ _ _ => (pg_name (i := 3) scpassed.nd rfl (.inl rfl))) (fun _ _ _ _ _ => pts_nil) (fun _ _ _ _ _ => (pe_tupP (pa_cons (pv 3) (pa_cons (pe_dget (hu_of hr) (pv 2) (pv 3) (fun _ _ => rfl)) pa_nil))))) pa_nil)) pa_nil))))
      (pss_one (ps_ret (pe_tupP (pa_cons (pv 1) (pa_cons (pv 0) (pa_cons (pv 5) pa_nil))))))))))), ?_⟩
  show KP _ [some v1, some v2, none, none, none, none] H
  have i1 : TD K H v1 (.tuple [.int f1.1, encCs f1.2]) := h1
  have i2 : TD K H v2 (.tuple [.int s1.1, encCs s1.2]) := h2
  have l1 := gf.len
  have l2 := gs.len
  refine k_setD (cs := s1.2) (edc_dict (K := K) ?_ gs.nd) fun p H1 np e1 hp => ?_
  · walk_at "ed"
  have j1 := i1.up e1
  have j2 := i2.up e1
  have g1 := h1.up e1
  have g2 := h2.up e1
  dsimp only
  refine k_if1 (b := !has s1.2 f1.1 || (has f1.2 s1.1 || conflict f1 s1)) ?_ (fun hb => ?_) (fun hb => ?_)
  · refine et_or (et_B (K := K) (ed_dni (DictAt.of hp) ?_ (ev_var rfl))) fun _ => et_or (et_T (K := K) (ed_is (ed_inL (neg := false) (i := s1.1) (ns := keys f1.2) ?_ ?_) ?_)) fun _ => et_B (K := K) (ed_call (ds := [encG f1, encG s1]) ?_ ⟨f1, s1, gf, gs, rfl, rfl⟩)
    · walk_at "ed"
    · walk_at "ed"
    · have := el_slL (el_call (R := R_wires) (E := E0) (K := K) (H := H1) (σ := [some v1, some v2, none, none, none, none].set 2 (some (V.ref p))) (ds := [encG f1]) (tr := tCons (tVar 0) tNil) (by walk_at "ed") ⟨f1, by omega, rfl, rfl⟩) (ep_some (K := K) (ed_int (i := 1))) ep_none
      rw [List.map_cons, cutD1] at this
      exact this
    · rw [any_has]
      rfl
    · walk_at "ed"
  · refine k_ret (K := K) (d := .none) ?_ fun v H2 s2 q1 => ?_
    · walk_at "ed"
    · refine q v H2 (e1.trans s2) ?_
      unfold passed
      rw [if_pos (by rw [Bool.or_assoc]; exact hb)]
      exact q1
  have em : passed f1 s1 = some (s1.1, srt (puts (del s1.2 f1.1) f1.2)) := by
    unfold passed
    rw [if_neg (by rw [Bool.or_assoc, hb]; decide)]
  have hin : has s1.2 f1.1 = true := by
    cases z : has s1.2 f1.1 with
    | true => rfl
    | false => rw [z] at hb; cases hb
  obtain ⟨y, hy⟩ := Option.isSome_iff_exists.mp hin
  dsimp only
  refine k_seq (k_dpop (K := K) hp (ev_var rfl) (w := f1.1) (x := y) ?_ hy fun H2 e2 => ?_)
  · walk_at "ed"
  have s2 : Same H (upd H2 p (.dK (encD (del s1.2 f1.1)))) := same_mut (e1.trans e2) np
  generalize hH3 : upd H2 p (.dK (encD (del s1.2 f1.1))) = H3 at s2
  have hp3 : H3 p = some (.dK (encD (del s1.2 f1.1))) := by rw [← hH3]; exact upd_same
  have j1 := i1.up s2
  have j2 := i2.up s2
  apply k_at
  dsimp only
  refine k_seq (k_fill (K := K) (ps := f1.2) (cs := del s1.2 f1.1) (p := p) hp3 (wd_tup (ds := f1.2.map encC) ?_) rfl (by decide) (by decide) (by decide) (by simp) (by simp) ?_ ?_)
  · walk_at "ed"
  · have := del_len s1.2 f1.1
    omega
  intro x y' Hs H4 a1 a2 a3 a4
  have s4 : Same H H4 := fun b o hb => a3 b o (fun z => by rw [z, np] at hb; cases hb) (a1 _ _ (s2 _ _ hb))
  have j1 := i1.up s4
  have j2 := i2.up s4
  have nd : (keys (puts (del s1.2 f1.1) f1.2)).Nodup := nodup_puts _ (nodup_del gs.nd _)
  have ln : (puts (del s1.2 f1.1) f1.2).length < 64 := by
    have := del_len s1.2 f1.1
    have := puts_len f1.2 (del s1.2 f1.1)
    omega
  apply k_at
  dsimp only
  refine k_set (K := K) (d := encG (s1.1, srt (puts (del s1.2 f1.1) f1.2))) ?_ fun v H5 s5 q5 => ?_
  · refine ed_tup (ea_cons (d := .int s1.1) ?_ (ea_cons (ed_ordered a4 rfl (by decide) (by simp) nd ln) ea_nil)) (le_line (by simp))
    walk_at "ed"
  have k1 := h1.up (s4.trans s5)
  have k2 := h2.up (s4.trans s5)
  dsimp only
  refine k_ret (K := K) (d := encGs [s1, f1, (s1.1, srt (puts (del s1.2 f1.1) f1.2))]) ?_ fun v6 H6 s6 q6 => ?_
  · exact ed_tup (ea_cons (ed_var rfl k2) (ea_cons (ed_var rfl k1) (ea_cons (ed_var rfl q5) ea_nil))) (le_line (by simp))
  · refine q v6 H6 ((s4.trans s5).trans s6) ?_
    rw [em]
    exact q6
end
end Bk

set_option Elab.async false
set_option linter.all false
set_option maxRecDepth 100000
set_option maxHeartbeats 4000000
/-! The steps: what stands behind a step, of any plain data. -/
namespace Bk
open PySem PySem.Spec PyProof.Rows L2

inductive Wd where
  | cancel | pair | exchange | merge | split | pass
  deriving DecidableEq
def Wd.name : Wd → Str
  | .cancel => "cancel"
  | .pair => "pair"
  | .exchange => "exchange"
  | .merge => "merge"
  | .split => "split"
  | .pass => "pass"
def Wd.len : Wd → Nat
  | .pair => 3
  | .split => 3
  | _ => 2
def Wd.use : Wd → Nat
  | .pair => 0
  | .split => 1
  | _ => 2
def wdOf (z : Str) : Option Wd := if z = "cancel" then some .cancel else if z = "pair" then some .pair else if z = "exchange" then some .exchange else if z = "merge" then some .merge else if z = "split" then some .split else if z = "pass" then some .pass else none
theorem wd_name : ∀ wd : Wd, wdOf wd.name = some wd
  | .cancel => by decide +kernel
  | .pair => by decide +kernel
  | .exchange => by decide +kernel
  | .merge => by decide +kernel
  | .split => by decide +kernel
  | .pass => by decide +kernel
theorem wd_some {z : Str} {wd : Wd} (h : wdOf z = some wd) : z = wd.name := by
  unfold wdOf at h
  repeat' split at h
  all_goals first | (cases h; assumption) | cases h
theorem wd_ne {z : Str} (h : wdOf z = none) (wd : Wd) : z ≠ wd.name := fun e => by
  rw [e, wd_name] at h
  cases h
theorem wd_eq {a b : Wd} : (a.name = b.name) ↔ a = b := ⟨fun h => by
  have := wd_name a
  rw [h, wd_name] at this
  exact (Option.some.inj this).symm, fun h => by rw [h]⟩
/-! ### gates of plain data -/
def ctlD (t : Int) : Int → List PyData → Option Ctl
  | _, [] => some []
  | b, .tuple [.int w, .int v] :: cs => if 0 ≤ w ∧ 0 ≤ v ∧ v ≤ 1 ∧ b < w ∧ w ≠ t then (ctlD t w cs).map fun r => (w, v) :: r else none
  | _, _ :: _ => none
def gateD : PyData → Option Gate
  | .tuple [.int t, .tuple cs] => if 0 ≤ t then (ctlD t (-1) cs).map fun c => (t, c) else none
  | _ => none
theorem ctlD_ok (t : Int) : ∀ {cs : List PyData} {b : Int} {r : Ctl}, ctlD t b cs = some r → cs = r.map encC ∧ Asc r ∧ (∀ c ∈ r, b < c.1) ∧ ∀ c ∈ r, 0 ≤ c.1 ∧ c.1 ≠ t ∧ (c.2 = 0 ∨ c.2 = 1)
  | [], b, r, h => by
    cases h
    exact ⟨rfl, List.Pairwise.nil, fun _ m => absurd m List.not_mem_nil, fun _ m => absurd m List.not_mem_nil⟩
  | d :: cs, b, r, h => by
    unfold ctlD at h
    split at h
    · rename_i heq; cases heq
    · rename_i b' w v cs' heq
      injection heq with e1 e2
      subst e1 e2
      split at h
      · rename_i hc
        cases hq : ctlD t w cs with
        | none => rw [hq] at h; cases h
        | some r1 =>
          rw [hq] at h
          cases h
          obtain ⟨a1, a2, a3, a4⟩ := ctlD_ok t hq
          refine ⟨by rw [List.map_cons, ← a1]; rfl, List.Pairwise.cons (fun c m => a3 c m) a2, fun c m => ?_, fun c m => ?_⟩
          · rcases List.mem_cons.mp m with rfl | m'
            · exact hc.2.2.2.1
            · have h3 := a3 c m'
              have h4 := hc.2.2.2.1
              omega
          · rcases List.mem_cons.mp m with rfl | m'
            · refine ⟨hc.1, hc.2.2.2.2, ?_⟩
              show v = 0 ∨ v = 1
              omega
            · exact a4 c m'
      · cases h
    · cases h
theorem gateD_ok {d : PyData} {g : Gate} (h : gateD d = some g) : d = encG g ∧ Asc g.2 ∧ 0 ≤ g.1 ∧ ∀ c ∈ g.2, 0 ≤ c.1 ∧ c.1 ≠ g.1 ∧ (c.2 = 0 ∨ c.2 = 1) := by
  unfold gateD at h
  split at h
  · rename_i t cs
    split at h
    · rename_i ht
      cases hq : ctlD t (-1) cs with
      | none => rw [hq] at h; cases h
      | some r =>
        rw [hq] at h
        cases h
        obtain ⟨a1, a2, a3, a4⟩ := ctlD_ok t hq
        exact ⟨by rw [a1]; rfl, a2, ht, a4⟩
    · cases h
  · cases h
def inW (W : Int) (g : Gate) : Bool := (g.1 :: keys g.2).all fun w => decide (w < W)
theorem inW_iff {W : Int} {g : Gate} : inW W g = true ↔ g.1 < W ∧ ∀ c ∈ g.2, c.1 < W := by
  unfold inW
  rw [List.all_eq_true]
  constructor
  · intro h
    refine ⟨by simpa using h g.1 List.mem_cons_self, fun c m => by simpa using h c.1 (List.mem_cons_of_mem _ (List.mem_map_of_mem m))⟩
  · intro h w m
    rcases List.mem_cons.mp m with rfl | m'
    · simpa using h.1
    · obtain ⟨c, m2, rfl⟩ := List.mem_map.mp m'
      simpa using h.2 c m2
theorem gateD_gok {W : Int} {d : PyData} {g : Gate} (h : gateD d = some g) (hw : inW W g = true) : GOk W g := by
  obtain ⟨_, a1, a2, a3⟩ := gateD_ok h
  obtain ⟨b1, b2⟩ := inW_iff.mp hw
  exact ⟨a2, b1, a1, fun c m => ⟨(a3 c m).1, b2 c m, (a3 c m).2.1, (a3 c m).2.2⟩⟩
/-- a gate over few wires is small -/
theorem gok_small {W : Int} {g : Gate} (h : GOk W g) (hW : W ≤ 6) : g.2.length ≤ 6 := by
  have := len_le (a := keys g.2) (b := [0, 1, 2, 3, 4, 5]) (asc_nodup h.asc) fun x hx => by
    obtain ⟨c, m, rfl⟩ := List.mem_map.mp hx
    obtain ⟨a, b, _⟩ := h.ctl c m
    have : c.1 = 0 ∨ c.1 = 1 ∨ c.1 = 2 ∨ c.1 = 3 ∨ c.1 = 4 ∨ c.1 = 5 := by omega
    simpa using this
  rw [List.length_map] at this
  exact this
theorem GOk.gs {W : Int} {g : Gate} (h : GOk W g) (hW : W ≤ 6) : GS g := ⟨h.asc, Nat.le_trans (gok_small h hW) (by decide)⟩
/-! ### steps -/
def gAt (gs : List Gate) (i : Nat) : Gate := gs.getD i (0, [])
def newOf (W : Int) (x : PyData) (f s : Gate) : Wd → Option (List Gate)
  | .cancel => if f = s then some [] else none
  | .pair => match gateD x with
    | some g => if inW W g then some [g, g] else none
    | none => none
  | .exchange => if exch f s then some [s, f] else none
  | .merge => (merged f s).map fun m => [m]
  | .split => match x with
    | .int k => if 0 ≤ k ∧ k < W then splitG f k else none
    | _ => none
  | .pass => (passed f s).map fun m => [s, f, m]
def doStep (c : Circ) (wd : Wd) (i : Nat) (x : PyData) : Option Circ := if i + wd.use ≤ c.2.length then (newOf c.1 x (gAt c.2 i) (gAt c.2 (i + 1)) wd).map fun n => (c.1, c.2.take i ++ n ++ c.2.drop (i + wd.use)) else none
def behind (c : Circ) : PyData → Option Circ
  | .tuple (.str z :: .int i :: r) => match wdOf z with
    | some wd => if r.length + 2 = wd.len ∧ 0 ≤ i then doStep c wd i.toNat (r.headD .none) else none
    | none => none
  | _ => none
def applyF (k : Nat) : Circ → List PyData → Option Circ × Int
  | c, [] => (some c, -1)
  | c, d :: r => match behind c d with
    | none => (none, k)
    | some c' => applyF (k + 1) c' r
structure CS (W : Int) (c : Circ) : Prop where
  w : c.1 = W
  g : ∀ g ∈ c.2, GOk W g
/-- the same map -/
def SameMap (W : Int) (c d : Circ) : Prop := ∀ b, BOk W b → runL d.2 b = runL c.2 b
theorem SameMap.refl (W : Int) (c : Circ) : SameMap W c c := fun _ _ => rfl
theorem SameMap.trans {W : Int} {a b c : Circ} (h : SameMap W a b) (k : SameMap W b c) : SameMap W a c := fun x hx => (k x hx).trans (h x hx)
theorem getD_at {gs : List Gate} {i : Nat} (h : i < gs.length) : gs[i]? = some (gAt gs i) := by
  unfold gAt
  rw [List.getD_eq_getElem?_getD, List.getElem?_eq_getElem h]
  rfl
theorem cut1 {gs : List Gate} {i : Nat} (h : i + 1 ≤ gs.length) : gs = gs.take i ++ [gAt gs i] ++ gs.drop (i + 1) := by
  have := List.take_append_drop (i + 1) gs
  rw [List.take_add_one, getD_at h] at this
  exact this.symm
theorem cut2 {gs : List Gate} {i : Nat} (h : i + 2 ≤ gs.length) : gs = gs.take i ++ [gAt gs i, gAt gs (i + 1)] ++ gs.drop (i + 2) := by
  have := List.take_append_drop (i + 2) gs
  rw [List.take_add_one, getD_at (show i + 1 < gs.length by omega), List.take_add_one, getD_at (show i < gs.length by omega)] at this
  rw [List.append_assoc (gs.take i)] at this
  exact this.symm
theorem gAt_mem {gs : List Gate} {i : Nat} (h : i < gs.length) : gAt gs i ∈ gs := List.mem_of_getElem? (getD_at h)
/-- putting in place of a middle what runs alike -/
theorem mid_ok {W : Int} {gs A B n h : List Gate} (e : gs = A ++ h ++ B) (hg : ∀ g ∈ gs, GOk W g) (hn : ∀ g ∈ n, GOk W g) (hr : ∀ b, BOk W b → runL n b = runL h b) :
    (∀ g ∈ A ++ n ++ B, GOk W g) ∧ ∀ b, BOk W b → runL (A ++ n ++ B) b = runL gs b := by
  subst e
  have hA : ∀ g ∈ A, GOk W g := fun g m => hg g (List.mem_append_left _ (List.mem_append_left _ m))
  refine ⟨fun g m => ?_, fun b hb => ?_⟩
  · rcases List.mem_append.mp m with m1 | m1
    · rcases List.mem_append.mp m1 with m2 | m2
      · exact hA g m2
      · exact hn g m2
    · exact hg g (List.mem_append_right _ m1)
  · rw [runL_app, runL_app, runL_app, runL_app, hr _ (runL_ok hb hA)]
theorem doStep_ok {W : Int} {c c' : Circ} {wd : Wd} {i : Nat} {x : PyData} (hc : CS W c) (h : doStep c wd i x = some c') : CS W c' ∧ c'.2.length ≤ c.2.length + 2 ∧ SameMap W c c' := by
  unfold doStep at h
  split at h
  · rename_i hi
    cases hn : newOf c.1 x (gAt c.2 i) (gAt c.2 (i + 1)) wd with
    | none => rw [hn] at h; cases h
    | some n =>
      rw [hn] at h
      cases h
      have key : ∀ hh : List Gate, c.2 = c.2.take i ++ hh ++ c.2.drop (i + wd.use) → n.length ≤ hh.length + 2 → (∀ g ∈ n, GOk W g) → (∀ b, BOk W b → runL n b = runL hh b) →
          CS W (c.1, c.2.take i ++ n ++ c.2.drop (i + wd.use)) ∧ (c.2.take i ++ n ++ c.2.drop (i + wd.use)).length ≤ c.2.length + 2 ∧ SameMap W c (c.1, c.2.take i ++ n ++ c.2.drop (i + wd.use)) := by
        intro hh e hl h1 h2
        obtain ⟨m1, m2⟩ := mid_ok e hc.g h1 h2
        refine ⟨⟨hc.w, m1⟩, ?_, m2⟩
        have e2 := congrArg List.length e
        simp only [List.length_append] at e2 ⊢
        omega
      have hw := hc.w
      cases wd with
      | cancel =>
        simp only [newOf] at hn
        split at hn
        · rename_i hfs
          cases hn
          have hi' : i + 2 ≤ c.2.length := hi
          have hf := hc.g _ (gAt_mem (gs := c.2) (i := i) (by omega))
          refine key _ (cut2 hi') (by simp) (fun g m => absurd m List.not_mem_nil) fun b hb => ?_
          rw [← hfs, run_cancel hb hf]
          rfl
        · cases hn
      | pair =>
        simp only [newOf] at hn
        split at hn
        · rename_i g hg
          split at hn
          · rename_i hw2
            cases hn
            rw [hw] at hw2
            have gk := gateD_gok hg hw2
            refine key [] ?_ (by simp) (fun g' m => ?_) fun b hb => ?_
            · rw [List.append_nil]
              exact (List.take_append_drop i c.2).symm
            · have : g' = g := by simpa using m
              rw [this]
              exact gk
            · rw [run_cancel hb gk]
              rfl
          · cases hn
        · cases hn
      | exchange =>
        simp only [newOf] at hn
        split at hn
        · rename_i hx
          cases hn
          have hi' : i + 2 ≤ c.2.length := hi
          have hf := hc.g _ (gAt_mem (gs := c.2) (i := i) (by omega))
          have hs := hc.g _ (gAt_mem (gs := c.2) (i := i + 1) (by omega))
          refine key _ (cut2 hi') (by simp) (fun g m => ?_) fun b hb => run_exch hb hf hs hx
          rcases List.mem_cons.mp m with rfl | m1
          · exact hs
          · rw [List.mem_singleton.mp m1]
            exact hf
        · cases hn
      | merge =>
        simp only [newOf] at hn
        cases hm : merged (gAt c.2 i) (gAt c.2 (i + 1)) with
        | none => rw [hm] at hn; cases hn
        | some m =>
          rw [hm] at hn
          cases hn
          have hi' : i + 2 ≤ c.2.length := hi
          have hf := hc.g _ (gAt_mem (gs := c.2) (i := i) (by omega))
          have hs := hc.g _ (gAt_mem (gs := c.2) (i := i + 1) (by omega))
          refine key _ (cut2 hi') (by simp) (fun g mm => ?_) fun b hb => run_merged hb hf hs hm
          rw [List.mem_singleton.mp mm]
          exact merged_ok hf hs hm
      | split =>
        simp only [newOf] at hn
        split at hn
        · rename_i k
          split at hn
          · rename_i hk
            rw [hw] at hk
            have hi' : i + 1 ≤ c.2.length := hi
            have hf := hc.g _ (gAt_mem (gs := c.2) (i := i) (by omega))
            refine key _ (cut1 hi') ?_ (fun g mm => split_ok hf hk.1 hk.2 hn mm) fun b hb => run_split hb hf hk.1 hk.2 hn
            unfold splitG at hn
            split at hn
            · cases hn
            · cases hn
              simp
          · cases hn
        · cases hn
      | pass =>
        simp only [newOf] at hn
        cases hm : passed (gAt c.2 i) (gAt c.2 (i + 1)) with
        | none => rw [hm] at hn; cases hn
        | some m =>
          rw [hm] at hn
          cases hn
          have hi' : i + 2 ≤ c.2.length := hi
          have hf := hc.g _ (gAt_mem (gs := c.2) (i := i) (by omega))
          have hs := hc.g _ (gAt_mem (gs := c.2) (i := i + 1) (by omega))
          refine key _ (cut2 hi') (by simp) (fun g mm => ?_) fun b hb => run_passed hb hf hs hm
          rcases List.mem_cons.mp mm with rfl | m1
          · exact hs
          rcases List.mem_cons.mp m1 with rfl | m2
          · exact hf
          · rw [List.mem_singleton.mp m2]
            exact passed_ok hf hs hm
  · cases h
theorem behind_ok {W : Int} {c c' : Circ} {d : PyData} (hc : CS W c) (h : behind c d = some c') : CS W c' ∧ c'.2.length ≤ c.2.length + 2 ∧ SameMap W c c' := by
  unfold behind at h
  split at h
  · split at h
    · split at h
      · exact doStep_ok hc h
      · cases h
    · cases h
  · cases h
theorem applyF_ok {W : Int} : ∀ {ds : List PyData} {k : Nat} {c c' : Circ} {n : Int}, CS W c → applyF k c ds = (some c', n) → CS W c' ∧ n = -1 ∧ SameMap W c c'
  | [], k, c, c', n, hc, h => by
    cases h
    exact ⟨hc, rfl, SameMap.refl _ _⟩
  | d :: r, k, c, c', n, hc, h => by
    unfold applyF at h
    split at h
    · cases h
    · rename_i c1 hb
      obtain ⟨a, _, b⟩ := behind_ok hc hb
      obtain ⟨x, y, z⟩ := applyF_ok a h
      exact ⟨x, y, b.trans z⟩
theorem applyF_cons (k : Nat) (c : Circ) (d : PyData) (r : List PyData) : applyF k c (d :: r) = match behind c d with
    | none => (none, (k : Int))
    | some c' => applyF (k + 1) c' r := rfl
theorem applyF_app : ∀ {a : List PyData} {k : Nat} {c c1 : Circ} {n : Int} (b : List PyData), applyF k c a = (some c1, n) → applyF k c (a ++ b) = applyF (k + a.length) c1 b
  | [], k, c, c1, n, b, h => by cases h; rfl
  | d :: r, k, c, c1, n, b, h => by
    rw [applyF_cons] at h
    rw [List.cons_append, applyF_cons]
    cases hb : behind c d with
    | none => rw [hb] at h; cases h
    | some c2 =>
      rw [hb] at h
      show applyF (k + 1) c2 (r ++ b) = _
      rw [applyF_app b h, List.length_cons]
      congr 1
      omega
theorem applyF_shift : ∀ {a : List PyData} {k : Nat} (m : Nat) {c c1 : Circ} {n : Int}, applyF k c a = (some c1, n) → applyF m c a = (some c1, n)
  | [], _, _, _, _, _, h => h
  | d :: r, k, m, c, c1, n, h => by
    rw [applyF_cons] at h ⊢
    cases hb : behind c d with
    | none => rw [hb] at h; cases h
    | some c2 =>
      rw [hb] at h
      exact applyF_shift _ h
end Bk

set_option Elab.async false
set_option linter.all false
set_option maxRecDepth 100000
set_option maxHeartbeats 4000000
namespace Bk
open PySem PySem.Spec PyProof.Rows L2

local macro_rules | `(tactic| walk_at "ed") => `(tactic| first
  | assumption
  | exact ed_int | exact ed_bl | exact ed_non | exact ed_str | exact ea_nil | exact ep_none | exact et_yes
  | (apply ed_var rfl; assumption)
  | (apply ea_cons; walk_at "ed"; walk_at "ed")
  | (apply ed_ix; walk_at "ed"; walk_at "ed"; rfl)
  | (apply et_B; walk_at "ed")
  | (apply et_T; walk_at "ed")
  | (apply ed_tup; walk_at "ed"; (apply le_line; simp only [List.length_cons, List.length_nil]; omega))
  | (apply ed_eqI; walk_at "ed"; walk_at "ed")
  | (apply ed_neI; walk_at "ed"; walk_at "ed")
  | (apply ed_eqS; walk_at "ed"; walk_at "ed")
  | (apply ed_neS; walk_at "ed"; walk_at "ed")
  | (apply ed_I0; walk_at "ed"; walk_at "ed")
  | (apply ed_B0; walk_at "ed"; walk_at "ed")
  | (apply ed_neg; walk_at "ed")
  | (apply ed_isN; walk_at "ed")
  | (apply ed_notN; walk_at "ed")
  | (apply ed_lenT; walk_at "ed")
  | (apply ep_some; walk_at "ed")
  | (apply ed_sl; walk_at "ed"; walk_at "ed"; walk_at "ed")
  | (apply el_lst; walk_at "ed"; (apply le_line; simp only [List.length_cons, List.length_nil]; omega))
  | (apply ed_tupL; walk_at "ed")
  | (apply et_not; walk_at "ed")
  | (apply ed_notV; walk_at "ed")
  | (apply ed_isInt; walk_at "ed")
  | (apply ed_isBool; walk_at "ed")
  | (apply ed_isTup; walk_at "ed")
  | (apply ed_isStr; walk_at "ed")
  | (apply ed_andF; walk_at "ed"; rfl)
  | (apply ed_andT; walk_at "ed"; rfl; walk_at "ed")
  | (apply ed_orT; walk_at "ed"; rfl)
  | (apply ed_orF; walk_at "ed"; rfl; walk_at "ed")
  | (apply et_andF; walk_at "ed"; rfl)
  | (apply et_andT; walk_at "ed"; rfl; walk_at "ed")
  | (apply et_orT; walk_at "ed"; rfl)
  | (apply et_orF; walk_at "ed"; rfl; walk_at "ed")
  | (apply ed_andV; walk_at "ed"; (intro _; walk_at "ed"))
  | (apply ed_orV; walk_at "ed"; (intro _; walk_at "ed"))
  | (apply et_and; walk_at "ed"; (intro _; walk_at "ed"))
  | (apply et_or; walk_at "ed"; (intro _; walk_at "ed")))

section
variable {P : Program} {w : World} {K : PySem.W.Frag} {mg : Str → Option Value} {base : Heap}
theorem k_name {i : Nat} {σ : L2.St} {H : Hp} {v : V} {p : L2.St → Hp → Prop} (h : KP p (σ.set i (some v)) H) : gName i v σ H p := h H (Same.refl H)
def R_isgate (ds : List PyData) (d : PyData) : Prop := ∃ x, ds = [x] ∧ d = .bool (gateD x).isSome
def noG : PyData → Bool
  | .tuple [a, b] => !isNumD a || !isTupD b
  | _ => true
def noC1 : PyData → Bool
  | .tuple [_, _] => false
  | _ => true
theorem isNum_iff {d : PyData} (h : isNumD d = true) : ∃ i, d = .int i ∧ 0 ≤ i := by
  cases d with
  | int i => exact ⟨i, rfl, by simpa [isNumD] using h⟩
  | _ => cases h
theorem isTup_iff {d : PyData} (h : isTupD d = true) : ∃ cs, d = .tuple cs := by
  cases d with
  | tuple cs => exact ⟨cs, rfl⟩
  | _ => cases h
theorem noG_bad {x : PyData} (h : noG x = true) : gateD x = none := by
  unfold gateD
  split
  · rename_i t cs
    split
    · rename_i ht
      simp [noG, isNumD, isTupD, ht] at h
    · rfl
  · rfl
theorem noG_good {x : PyData} (h : noG x = false) : ∃ t cs, x = .tuple [.int t, .tuple cs] ∧ 0 ≤ t := by
  unfold noG at h
  split at h
  · rename_i a b
    rw [Bool.or_eq_false_iff, Bool.not_eq_false', Bool.not_eq_false'] at h
    obtain ⟨t, rfl, ht⟩ := isNum_iff h.1
    obtain ⟨cs, rfl⟩ := isTup_iff h.2
    exact ⟨t, cs, rfl, ht⟩
  · cases h
theorem ctl_bad1 {t b : Int} {d : PyData} {r : List PyData} (h : noC1 d = true) : ctlD t b (d :: r) = none := by
  unfold ctlD
  split
  · rename_i heq; cases heq
  · rename_i heq; injection heq with e1 e2; subst e1; cases h
  · rfl
theorem noC1_good {x : PyData} (h : noC1 x = false) : ∃ a b, x = .tuple [a, b] := by
  unfold noC1 at h
  split at h
  · exact ⟨_, _, rfl⟩
  · cases h
theorem ctl_bad2 {t b : Int} {x y : PyData} {r : List PyData} (h : (!isNumD x || !isNumD y) = true) : ctlD t b (.tuple [x, y] :: r) = none := by
  unfold ctlD
  split
  · rename_i heq; cases heq
  · rename_i w v cs heq
    injection heq with e1 e2
    injection e1 with e1
    injection e1 with e3 e4
    injection e4 with e4 e5
    subst e3 e4
    split
    · rename_i hc
      simp [isNumD, hc.1, hc.2.1] at h
    · rfl
  · rfl
theorem ctl_go (t b i j : Int) (r : List PyData) (h1 : 0 ≤ i) (h2 : 0 ≤ j) : (ctlD t b (.tuple [.int i, .int j] :: r)).isSome = (!(decide (1 < j) || (decide (i ≤ b) || decide (i = t))) && (ctlD t i r).isSome) := by
  show (if _ then _ else _ : Option Ctl).isSome = _
  by_cases hc : 0 ≤ i ∧ 0 ≤ j ∧ j ≤ 1 ∧ b < i ∧ i ≠ t
  · rw [if_pos hc, decide_eq_false (by omega), decide_eq_false (by omega), decide_eq_false (by omega), Option.isSome_map]
    rfl
  · rw [if_neg hc]
    by_cases a1 : 1 < j
    · rw [decide_eq_true a1]; rfl
    · by_cases a2 : i ≤ b
      · rw [decide_eq_false a1, decide_eq_true a2]; rfl
      · rw [decide_eq_false a1, decide_eq_false a2, decide_eq_true (by omega)]; rfl
theorem et_noC1 {i : Nat} {σ : L2.St} {H : Hp} {v : V} {d : PyData} (hs : σ[i]? = some (some v)) (q : TD K H v d) : ET (tOr (tNot (tB (tCB (rIsi K) (tCons (tVar i) (tCons (tC (V.ty "tuple")) tNil))))) (tTest (tOp rNe (tCB (rLen1 K) (tCons (tVar i) tNil)) (tC (V.int 2))))) σ H (noC1 d) := by
  have hv := ed_var (K := K) hs q
  cases d with
  | tuple xs =>
    refine et_orF (et_not (et_B (K := K) (ed_isTup hv))) rfl (et_is (et_T (K := K) (ed_neI (ed_lenT hv) ed_int)) ?_)
    match xs with
    | [] => rfl
    | [_] => rfl
    | [_, _] => rfl
    | _ :: _ :: _ :: r =>
      show (!decide _) = true
      rw [decide_eq_false (by simp only [List.length_cons]; omega)]
      rfl
  | dict x => cases q
  | _ => exact et_orT (et_not (et_B (K := K) (ed_isTup hv))) rfl
abbrev Nis_gate : List Str := ["value", "before", "control"]
theorem scis_gate : FnScope Nis_gate ["value"] (defScope sis_gate) := ⟨rfl, rfl, rfl, by decide +kernel, rfl, by decide +kernel, by decide +kernel⟩
theorem ok_is_gate (T : Fx mg) (D : Df K mg "is_gate" sis_gate) (c_is_number : Cl P w K mg base 1 "is_number" (spF K 1 R_isnum)) : Cl P w K mg base 2 "is_gate" (spF K 1 R_isgate) := by
  refine cl_F D scis_gate rfl (fun _ _ _ _ _ _ us hl => match us, hl with | [_], _ => rfl) ?_
  intro f cdv A outer s H vs Q E ds d hr ht hR q
  obtain ⟨x, rfl, rfl⟩ := hR
  obtain ⟨v, rfl, h1⟩ := ht.one
  refine ⟨_, (pss_cons (ps_if (PW.pt (pw_or (pt_not (pt_val (pe_callB (kc_isi (K := K)) (by rfl) T.isinstance bt_isinstance (pa_cons (pv 0) (pa_cons (pe_bltn (v := .ty "tuple") (by rfl) T.tuple bt_tuple rfl) pa_nil))))) (pw_or (pt_cmpR op_ne (pe_callB (kc_len (K := K)) (by rfl) T.len bt_len (pa_cons (pv 0) pa_nil)) pe_int (nomark _)) (pw_or (pt_not (pt_val (pe_cl c_is_number hr (by omega) (by rfl) (pa_cons (pe_ix (kx_tup (K := K)) (pv 0) pe_int (fun _ _ => rfl)) pa_nil)))) (pw_or1 (pt_not (pt_val (pe_callB (kc_isi (K := K)) (by rfl) T.isinstance bt_isinstance (pa_cons (pe_ix (kx_tup (K := K)) (pv 0) pe_int (fun _ _ => rfl)) (pa_cons (pe_bltn (v := .ty "tuple") (by rfl) T.tuple bt_tuple rfl) pa_nil)))))))))) (pss_one (ps_ret pe_bl)) pss_nil)
      (pss_cons (ps_set (i := 1) scis_gate.nd rfl (.inl rfl) (pe_un un_neg pe_int))
      (pss_cons (ps_for PassesOwn.never rfl (kp_tup (K := K) (pe_ix (kx_tup (K := K)) (pv 0) pe_int (fun _ _ => rfl))) (pg_name (i := 2) scis_gate.nd rfl (.inl rfl)) (pss_cons (ps_if (PW.pt (pw_or (pt_not (pt_val (pe_callB (kc_isi (K := K)) (by rfl) T.isinstance bt_isinstance (pa_cons (pv 2) (pa_cons (pe_bltn (v := .ty "tuple") (by rfl) T.tuple bt_tuple rfl) pa_nil))))) (pw_or1 (pt_cmpR op_ne (pe_callB (kc_len (K := K)) (by rfl) T.len bt_len (pa_cons (pv 2) pa_nil)) pe_int (nomark _))))) (pss_one (ps_ret pe_bl)) pss_nil)
        (pss_cons (ps_if (PW.pt (pw_or (pt_not (pt_val (pe_cl c_is_number hr (by omega) (by rfl) (pa_cons (pe_ix (kx_tup (K := K)) (pv 2) pe_int (fun _ _ => rfl)) pa_nil)))) (pw_or1 (pt_not (pt_val (pe_cl c_is_number hr (by omega) (by rfl) (pa_cons (pe_ix (kx_tup (K := K)) (pv 2) pe_int (fun _ _ => rfl)) pa_nil))))))) (pss_one (ps_ret pe_bl)) pss_nil)
        (pss_cons (ps_if (PW.pt (pw_or (pt_cmpR op_gt (pe_ix (kx_tup (K := K)) (pv 2) pe_int (fun _ _ => rfl)) pe_int (nomark _)) (pw_or (pt_cmpR op_le (pe_ix (kx_tup (K := K)) (pv 2) pe_int (fun _ _ => rfl)) (pv 1) (nomark _)) (pw_or1 (pt_cmpR op_eq (pe_ix (kx_tup (K := K)) (pv 2) pe_int (fun _ _ => rfl)) (pe_ix (kx_tup (K := K)) (pv 0) pe_int (fun _ _ => rfl)) (nomark _)))))) (pss_one (ps_ret pe_bl)) pss_nil)
        (pss_one (ps_set (i := 1) scis_gate.nd rfl (.inl rfl) (pe_ix (kx_tup (K := K)) (pv 2) pe_int (fun _ _ => rfl))))))))
      (pss_one (ps_ret pe_bl))))), ?_⟩
  show KP _ [some v, none, none] H
  have hv : ∀ {H'}, Same H H' → TD K H' v x := fun e => h1.up e
  refine k_if1 (b := noG x) ?_ (fun hb => ?_) (fun hb => ?_)
  · cases x with
    | tuple xs =>
      refine et_orF (et_not (et_B (K := K) (ed_isTup (ed_var rfl h1)))) rfl ?_
      match xs, h1 with
      | [], h1 => exact et_orT (et_T (K := K) (ed_neI (ed_lenT (ed_var rfl h1)) ed_int)) rfl
      | [_], h1 => exact et_orT (et_T (K := K) (ed_neI (ed_lenT (ed_var rfl h1)) ed_int)) rfl
      | [a, b], h1 =>
        refine et_orF (et_T (K := K) (ed_neI (ed_lenT (ed_var rfl h1)) ed_int)) rfl ?_
        refine et_or (et_not (et_B (K := K) (ed_call (ds := [a]) ?_ ⟨a, rfl, rfl⟩))) fun _ => et_not (et_B (K := K) (ed_isTup (d := b) ?_))
        · exact ea_cons (ed_ix (ed_var rfl h1) ed_int rfl) ea_nil
        · exact ed_ix (ed_var rfl h1) ed_int rfl
      | _ :: _ :: _ :: r, h1 =>
        refine et_orT (et_T (K := K) (ed_neI (ed_lenT (ed_var rfl h1)) ed_int)) ?_
        rw [decide_eq_false (by simp only [List.length_cons]; omega)]
        rfl
    | dict x => cases h1
    | _ => exact et_orT (et_not (et_B (K := K) (ed_isTup (ed_var rfl h1)))) rfl
  · refine k_ret (K := K) (d := .bool false) ed_bl fun v H1 s q1 => q v H1 s ?_
    rw [noG_bad hb]
    exact q1
  obtain ⟨t, cs, rfl, h0⟩ := noG_good hb
  have hg : (gateD (.tuple [.int t, .tuple cs])).isSome = (ctlD t (-1) cs).isSome := by
    show (if _ then _ else _ : Option Gate).isSome = _
    rw [if_pos h0, Option.isSome_map]
  rw [hg] at q
  dsimp only
  refine k_set (K := K) (d := .int (-1)) (ed_neg ed_int) fun v1 H1 e1 q1 => ?_
  cases q1.int_eq
  have h1' := h1.up e1
  dsimp only
  refine k_seq (k_for (wd_tup (ds := cs) (ed_ix (ed_var rfl h1') ed_int rfl)) fun Hs s1 => ?_)
  refine ⟨fun i σ' H' => ∃ b x, σ' = [some v, some (.int b), x] ∧ Same Hs H' ∧ (ctlD t (-1) cs).isSome = (ctlD t b (cs.drop i)).isSome, ⟨-1, none, rfl, Same.refl _, rfl⟩, fun i σ' H' h => ?_, fun i d u σ' H' hd q2 h => ?_, fun σ' H' h => ?_⟩
  · obtain ⟨_, _, _, h, _⟩ := h
    exact wx_same h
  · obtain ⟨b, y, rfl, h2, h3⟩ := h
    have e2 : Same H H' := e1.trans (s1.trans h2)
    have hdr : cs.drop i = d :: cs.drop (i + 1) := by
      obtain ⟨hi, rfl⟩ := List.getElem?_eq_some_iff.mp hd
      exact List.drop_eq_getElem_cons hi
    rw [hdr] at h3
    refine k_name ?_
    refine k_if1 (b := noC1 d) (et_noC1 rfl q2) (fun hb => ?_) (fun hb => ?_)
    · refine k_ret (K := K) (d := .bool false) ed_bl fun v3 H3 s3 q3 => q v3 H3 (e2.trans s3) ?_
      rw [h3, ctl_bad1 hb]
      exact q3
    obtain ⟨a1, a2, rfl⟩ := noC1_good hb
    dsimp only
    refine k_if1 (b := !isNumD a1 || !isNumD a2) ?_ (fun hb => ?_) (fun hb => ?_)
    · refine et_or (et_not (et_B (K := K) (ed_call (ds := [a1]) (ea_cons (ed_ix (ed_var rfl q2) ed_int rfl) ea_nil) ⟨a1, rfl, rfl⟩))) fun _ => et_not (et_B (K := K) (ed_call (ds := [a2]) (ea_cons (ed_ix (ed_var rfl q2) ed_int rfl) ea_nil) ⟨a2, rfl, rfl⟩))
    · refine k_ret (K := K) (d := .bool false) ed_bl fun v3 H3 s3 q3 => q v3 H3 (e2.trans s3) ?_
      rw [h3, ctl_bad2 hb]
      exact q3
    rw [Bool.or_eq_false_iff, Bool.not_eq_false', Bool.not_eq_false'] at hb
    obtain ⟨ci, rfl, hi0⟩ := isNum_iff hb.1
    obtain ⟨cj, rfl, hj0⟩ := isNum_iff hb.2
    rw [ctl_go _ _ _ _ _ hi0 hj0] at h3
    have h1'' := h1.up e2
    dsimp only
    refine k_if1 (b := decide (1 < cj) || (decide (ci ≤ b) || decide (ci = t))) ?_ (fun hb => ?_) (fun hb => ?_)
    · refine et_or (et_T (K := K) (ed_B0 (ed_ix (ed_var rfl q2) ed_int rfl) ed_int)) fun _ => et_or (et_T (K := K) (ed_B0 (ed_ix (ed_var rfl q2) ed_int rfl) (ed_var rfl (.int b)))) fun _ => et_T (K := K) (ed_eqI (ed_ix (ed_var rfl q2) ed_int rfl) (ed_ix (ed_var rfl h1'') ed_int rfl))
    · refine k_ret (K := K) (d := .bool false) ed_bl fun v3 H3 s3 q3 => q v3 H3 (e2.trans s3) ?_
      rw [h3, hb]
      exact q3
    dsimp only
    refine k_set (K := K) (d := .int ci) (ed_ix (ed_var rfl q2) ed_int rfl) fun v4 H4 s4 q4 => ?_
    cases q4.int_eq
    rw [hb] at h3
    exact k_mid fun H5 s5 => ⟨ci, some u, rfl, h2.trans (s4.trans s5), h3⟩
  · obtain ⟨b, y, rfl, h2, h3⟩ := h
    dsimp only
    apply k_at
    refine k_ret (K := K) (d := .bool true) ed_bl fun v3 H3 s3 q3 => q v3 H3 (e1.trans (s1.trans (h2.trans s3))) ?_
    rw [h3, List.drop_length]
    exact q3
end
end Bk

set_option Elab.async false
set_option linter.all false
set_option maxRecDepth 100000
set_option maxHeartbeats 4000000
namespace Bk
open PySem PySem.Spec PyProof.Rows L2

local macro_rules | `(tactic| walk_at "ed") => `(tactic| first
  | assumption
  | exact ed_int | exact ed_bl | exact ed_non | exact ed_str | exact ea_nil | exact ep_none | exact et_yes
  | (apply ed_var rfl; assumption)
  | (apply ea_cons; walk_at "ed"; walk_at "ed")
  | (apply ed_ix; walk_at "ed"; walk_at "ed"; rfl)
  | (apply et_B; walk_at "ed")
  | (apply et_T; walk_at "ed")
  | (apply ed_tup; walk_at "ed"; (apply le_line; simp only [List.length_cons, List.length_nil]; omega))
  | (apply ed_eqI; walk_at "ed"; walk_at "ed")
  | (apply ed_neI; walk_at "ed"; walk_at "ed")
  | (apply ed_eqS; walk_at "ed"; walk_at "ed")
  | (apply ed_neS; walk_at "ed"; walk_at "ed")
  | (apply ed_I0; walk_at "ed"; walk_at "ed")
  | (apply ed_B0; walk_at "ed"; walk_at "ed")
  | (apply ed_neg; walk_at "ed")
  | (apply ed_isN; walk_at "ed")
  | (apply ed_notN; walk_at "ed")
  | (apply ed_lenT; walk_at "ed")
  | (apply ep_some; walk_at "ed")
  | (apply ed_sl; walk_at "ed"; walk_at "ed"; walk_at "ed")
  | (apply el_lst; walk_at "ed"; (apply le_line; simp only [List.length_cons, List.length_nil]; omega))
  | (apply ed_tupL; walk_at "ed")
  | (apply et_not; walk_at "ed")
  | (apply ed_notV; walk_at "ed")
  | (apply ed_isInt; walk_at "ed")
  | (apply ed_isBool; walk_at "ed")
  | (apply ed_isTup; walk_at "ed")
  | (apply ed_isStr; walk_at "ed")
  | (apply ed_andF; walk_at "ed"; rfl)
  | (apply ed_andT; walk_at "ed"; rfl; walk_at "ed")
  | (apply ed_orT; walk_at "ed"; rfl)
  | (apply ed_orF; walk_at "ed"; rfl; walk_at "ed")
  | (apply et_andF; walk_at "ed"; rfl)
  | (apply et_andT; walk_at "ed"; rfl; walk_at "ed")
  | (apply et_orT; walk_at "ed"; rfl)
  | (apply et_orF; walk_at "ed"; rfl; walk_at "ed")
  | (apply ed_andV; walk_at "ed"; (intro _; walk_at "ed"))
  | (apply ed_orV; walk_at "ed"; (intro _; walk_at "ed"))
  | (apply et_and; walk_at "ed"; (intro _; walk_at "ed"))
  | (apply et_or; walk_at "ed"; (intro _; walk_at "ed")))

section
variable {P : Program} {w : World} {K : PySem.W.Frag} {mg : Str → Option Value} {base : Heap}
def R_run (ds : List PyData) (d : PyData) : Prop := ∃ (W : Int) (c : Circ) (b : List Int), W ≤ 6 ∧ CS W c ∧ c.2.length ≤ 1000 ∧ BOk W b ∧ ds = [encCi c, .tuple (b.map PyData.int)] ∧ d = .tuple ((runL c.2 b).map PyData.int)
theorem ixN_of {n : Nat} {i : Int} (h0 : 0 ≤ i) (h : i < n) : ixN n i = some i.toNat := by
  unfold ixN
  rw [if_pos h0, if_pos h]
theorem el_listT {σ : L2.St} {H : Hp} {ta : TE} {ds : List PyData} (ha : ED K ta σ H (.tuple ds)) : EL K (tCB (rListS K) (tCons ta tNil)) σ H ds := fun H1 a Q k =>
  ha H1 a _ fun x H2 b q => by
    obtain ⟨p, vs, rfl, q1, q2⟩ := q.tup_of
    exact ⟨p, vs, rfl, .inr q1.sq, fun l nl => k l vs _ (b.free nl) (b.trans (same_new nl)) upd_same (q2.up (same_new nl))⟩
theorem atI_of {α : Type} {xs : List α} {i : Int} {x : α} (h0 : 0 ≤ i) (h : xs[i.toNat]? = some x) : atI xs i = some x := by
  have hl : i.toNat < xs.length := by
    obtain ⟨hl, _⟩ := List.getElem?_eq_some_iff.mp h
    exact hl
  unfold atI
  rw [ixN_of h0 (by omega)]
  exact h
theorem at_bits {b : List Int} {w : Int} (h0 : 0 ≤ w) (h : w < b.length) : atI (b.map PyData.int) w = some (.int (at' b w)) := by
  refine atI_of h0 ?_
  rw [List.getElem?_map, List.getElem?_eq_getElem (by omega)]
  unfold at'
  rw [List.getD_eq_getElem?_getD, List.getElem?_eq_getElem (by omega)]
  rfl
theorem k_lset {σ : L2.St} {H : Hp} {te td ti : TE} {D : Ends} {p : Addr} {xs : List V} {d : PyData} {i : Int} {j : Nat} (hp : H p = some (.lst xs)) (h : ED K te σ H d) (hd : EV td σ H (.ref p)) (hi : ED K ti σ H (.int i)) (hj : ixN xs.length i = some j)
    (k : ∀ v H1, Same H H1 → TD K H1 v d → D.nx σ (upd H1 p (.lst (xs.set j v)))) : KP (tAsg te (gSub td ti rSetL) D) σ H := fun H1 a =>
  h H1 a _ fun v H2 b q => hd H2 (a.trans b) _ fun H3 c => ev_int hi H3 (a.trans (b.trans c)) _ fun H4 e =>
    ⟨p, xs, i, j, rfl, rfl, (a.trans (b.trans (c.trans e))) _ _ hp, hj, k v H4 (a.trans (b.trans (c.trans e))) (q.up (c.trans e))⟩
theorem k_turn {W : Int} {b : List Int} {gs : List Gate} {p : Addr} {H : Hp} {σ : L2.St} {tl : TE} {tt : TT} {a t u : Nat} {D : Ends} (hg : ∀ g ∈ gs, GOk W g) (hb : BOk W b) (hW : W ≤ 6)
    (hw : WD K Wx (iTup K tl) σ H (gs.map encG)) (hp : H p = some (.lst (b.map V.int))) (hs : σ[a]? = some (some (.ref p))) (h1 : a ≠ t) (h2 : a ≠ u) (h3 : t ≠ u) (l1 : t < σ.length) (l2 : u < σ.length)
    (ht : ∀ v H' b' g, BOk W b' → GOk W g → H' p = some (.lst (b'.map V.int)) → TD K H' v (encCs g.2) → ET tt ((σ.set t (some (.int g.1))).set u (some v)) H' (fire g b'))
    (k : ∀ x y Hs H1, Same H Hs → (∀ q o, q ≠ p → Hs q = some o → H1 q = some o) → H1 p = some (.lst ((runL gs b).map V.int)) → D.nx ((σ.set t x).set u y) H1) :
    KP (tFor (iTup K tl) (gTup K 2 (gCons (gName t) (gCons (gName u) gNil))) (tIfS tt (tAsg (tOp (rI0 fun i j => V.int (i - j)) (tC (V.int 1)) (tOp (rIxL K) (tVar a) (tVar t))) (gSub (tVar a) (tVar t) rSetL)) tNext) D) σ H := k_for hw fun Hs s => by
  refine ⟨fun i σ' H' => ∃ x y, σ' = (σ.set t x).set u y ∧ Wx Hs H' ∧ (∀ q o, q ≠ p → Hs q = some o → H' q = some o) ∧ H' p = some (.lst ((runL (gs.take i) b).map V.int)), ⟨σ[t], σ[u], ?_, Wx.refl _, fun _ _ _ h => h, s _ _ hp⟩, fun i σ' H' h => ?_, fun i d v σ' H' hd q h => ?_, fun σ' H' h => ?_⟩
  · rw [List.set_getElem_self, List.set_getElem_self]
  · obtain ⟨x, y, _, h, _⟩ := h
    exact h
  · obtain ⟨g, hgi, rfl⟩ := map_at hd
    obtain ⟨x, y, rfl, e1, e2, e3⟩ := h
    obtain ⟨ad, xs, rfl, q1, q2⟩ := q.tup_of
    obtain ⟨x1, x2, rfl, r1, r2⟩ := q2.two
    have ex := r1.int_eq
    subst ex
    refine ⟨ad, _, rfl, q1.sq, rfl, _, _, rfl, _, _, rfl, rfl, ?_⟩
    have hst : ((((σ.set t x).set u y).set t (some (V.int g.1))).set u (some x2)) = (σ.set t (some (V.int g.1))).set u (some x2) := by
      rw [List.set_comm _ _ h3.symm, List.set_set, List.set_set]
    rw [hst]
    have gk : GOk W g := hg g (List.mem_of_getElem? hgi)
    have gb : ∀ g ∈ gs.take i, GOk W g := fun g m => hg g (List.mem_of_mem_take m)
    have bk := runL_ok hb gb
    have et : runL (gs.take (i + 1)) b = step1 (runL (gs.take i) b) g := by
      rw [List.take_add_one, hgi]
      exact runL_app _ _ _
    have la : (σ.set t (some (V.int g.1))).length = σ.length := List.length_set
    have sa : ((σ.set t (some (V.int g.1))).set u (some x2))[a]? = some (some (.ref p)) := by
      rw [List.getElem?_set_ne h2.symm, List.getElem?_set_ne h1.symm]
      exact hs
    have st : ((σ.set t (some (V.int g.1))).set u (some x2))[t]? = some (some (.int g.1)) := by
      rw [List.getElem?_set_ne h3.symm, List.getElem?_set_self l1]
    have hlen := bk.len
    have t0 := gk.t0
    have tW := gk.tW
    dsimp only
    apply k_at
    refine k_if1 (b := fire g (runL (gs.take i) b)) (ht _ _ _ g bk gk e3 r2) (fun hf => ?_) (fun hf => ?_)
    · refine k_lset (d := .int (1 - at' (runL (gs.take i) b) g.1)) (j := g.1.toNat) e3 (ed_I0 ed_int (ed_ixV e3 (TDs.of_ints _) (ev_var sa) (ed_var st (.int _)) (at_bits t0 (by omega)))) (ev_var sa) (ed_var st (.int _)) (ixN_of t0 (by rw [List.length_map]; omega)) fun v H1 s1 q1 => ?_
      cases q1.int_eq
      refine ⟨_, _, rfl, e1.trans ((wx_same s1).trans (wx_lst (s1 _ _ e3))), fun q o nq hq => ?_, ?_⟩
      · rw [upd_ne nq]
        exact s1 _ _ (e2 q o nq hq)
      · rw [upd_same, et]
        unfold step1
        rw [if_pos hf, List.map_set]
    · refine fun H1 s1 => ⟨_, _, rfl, e1.trans (wx_same s1), fun q o nq hq => s1 _ _ (e2 q o nq hq), ?_⟩
      rw [s1 _ _ e3, et]
      unfold step1
      rw [if_neg (by rw [hf]; decide)]
  · obtain ⟨x, y, rfl, e1, e2, e3⟩ := h
    rw [List.length_map, List.take_length] at e3
    exact k x y Hs H' s e2 e3
abbrev Nrun_circuit : List Str := ["circuit", "bits", "found", "target", "controls", "wire", "value"]
theorem scrun_circuit : FnScope Nrun_circuit ["circuit", "bits"] (defScope srun_circuit) := ⟨rfl, rfl, rfl, by decide +kernel, rfl, by decide +kernel, by decide +kernel⟩
theorem ok_run_circuit (T : Fx mg) (D : Df K mg "run_circuit" srun_circuit) : Cl P w K mg base 1 "run_circuit" (spF K 2 R_run) := by
  refine cl_F D scrun_circuit rfl (fun _ _ _ _ _ _ us hl => match us, hl with | [_, _], _ => rfl) ?_
  intro f cdv A outer s H vs Q E ds d hr ht hR q
  obtain ⟨W, c, b, hW, hc, hl, hb, rfl, rfl⟩ := hR
  obtain ⟨v1, v2, rfl, h1, h2⟩ := ht.two
  refine ⟨_, (pss_cons (ps_set (i := 2) scrun_circuit.nd rfl (.inr rfl) (pe_callTy (kc_list (K := K)) (by rfl) T.list bt_list (pa_cons (pv 1) pa_nil)))
      (pss_cons (ps_for PassesOwn.never rfl (kp_tup (K := K) (pe_ix (kx_tup (K := K)) (pv 0) pe_int (fun _ _ => rfl))) (kg_tup (K := K) (n := 2) rfl (pgs_cons (pg_name (i := 3) scrun_circuit.nd rfl (.inl rfl)) (pgs_cons (pg_name (i := 4) scrun_circuit.nd rfl (.inl rfl)) pgs_nil))) (pss_one (ps_if (pt_val (pe_callB (kc_all (K := K) rfl) (by rfl) T.all bt_all (pa_cons (pe_lc (own := [("wire", 5), ("value", 6)]) (g := gTup K 2 (gCons (gName 5) (gCons (gName 6) (gNil)))) (tt := tYes) rfl scrun_circuit.nd (kp_tup (K := K) (pv 4)) (blkOk_by (own := [("wire", 5), ("value", 6)]) (N := Nrun_circuit) (sc := defScope srun_circuit) (by decide +kernel)) (fun _ _ _ _ _ => (kg_tup (K := K) (n := 2) rfl (pgs_cons (pg_name (i := 5) scrun_circuit.nd rfl (.inl rfl)) (pgs_cons (pg_name (i := 6) scrun_circuit.nd rfl (.inl rfl)) pgs_nil)))) (fun _ _ _ _ _ => pts_nil) (fun _ _ _ _ _ => (pe_cmpR op_eq (pe_ix (kx_list (K := K)) (pv 2) (pv 5) (fun _ _ => rfl)) (pv 6) (nomark _)))) pa_nil))) (pss_one (ps_asg (pe_op op_sub pe_int (pe_ix (kx_list (K := K)) (pv 2) (pv 3) (fun _ _ => rfl))) (pg_sub (pv 2) (pv 3) set_list))) pss_nil)))
      (pss_one (ps_ret (pe_callTy (kc_tup (K := K)) (by rfl) T.tuple bt_tuple (pa_cons (pv 2) pa_nil)))))), ?_⟩
  show KP _ [some v1, some v2, none, none, none, none, none] H
  have i1 : TD K H v1 (.tuple [.int c.1, encGs c.2]) := h1
  refine k_setL (ds := b.map .int) (el_listT (ed_var rfl h2)) fun p vs H1 np e1 hp hv => ?_
  have hv' := hv.ints
  subst hv'
  have j1 := i1.up e1
  dsimp only
  have hlen := hb.len
  refine k_seq (k_turn (W := W) (b := b) (gs := c.2) (p := p) hc.g hb hW (wd_tup (ds := c.2.map encG) (ed_ix (ed_var rfl j1) ed_int rfl)) hp rfl (by decide) (by decide) (by decide) (by simp) (by simp) (fun v H' b' g bk gk e3 r2 => ?_) fun x y Hs H2 s1 s2 s3 => ?_)
  · have hl' := bk.len
    refine et_B (K := K) (ed_is (ed_all (bs := g.2.map fun c => decide (at' b' c.1 = c.2)) ?_) (by rw [List.all_map]; rfl))
    have e : (g.2.map fun c => decide (at' b' c.1 = c.2)).map PyData.bool = ((g.2.map encC).filter fun _ => true).map fun d => .bool (decide (at' b' (asC d).1 = (asC d).2)) := by
      rw [filt, List.map_map, List.map_map]
      rfl
    rw [e]
    have gl := gok_small gk hW
    refine el_lc (fun _ => true) (fun d => .bool (decide (at' b' (asC d).1 = (asC d).2))) (wd_mono (wd_tup (ds := g.2.map encC) (ed_var rfl r2)) fun _ _ => wx_same) (fun i d v' H' s' hd q => ?_) (by rw [List.length_map]; omega)
    obtain ⟨ct, hct, rfl⟩ := map_at hd
    obtain ⟨z1, z2, _⟩ := gk.ctl ct (List.mem_of_getElem? hct)
    refine turn_pair (d1 := .int ct.1) (d2 := .int ct.2) q fun x1 x2 q1 q2 => ⟨rfl, et_yes, fun _ => ?_⟩
    exact ed_eqI (ed_ixV (s' _ _ e3) (TDs.of_ints _) (ev_var rfl) (ed_var rfl q1) (at_bits z1 (by omega))) (ed_var rfl q2)
  · have s4 : Same H H2 := fun q o hq => s2 q o (fun z => by rw [z, np] at hq; cases hq) (s1 _ _ (e1 _ _ hq))
    dsimp only
    apply k_at
    refine k_ret (K := K) (d := .tuple ((runL c.2 b).map PyData.int)) (ed_tupV s3 (TDs.of_ints _) (ev_var rfl)) fun v3 H3 s5 q3 => q v3 H3 (s4.trans s5) q3
/-! turned -/
def R_turn (ds : List PyData) (d : PyData) : Prop := ∃ (W : Int) (gs : List Gate) (b : List Int), W ≤ 6 ∧ (∀ g ∈ gs, GOk W g) ∧ BOk W b ∧ ds = [encGs gs, .tuple (b.map PyData.int)] ∧ d = .tuple ((runL gs b).map PyData.int)
abbrev NL_turned : List Str := ["_law_gates", "_law_bits_here", "_law_target", "_law_controls", "_law_wire", "_law_value_here"]
theorem scL_turned : FnScope NL_turned ["_law_gates", "_law_bits_here"] (defScope sL_turned) := ⟨rfl, rfl, rfl, by decide +kernel, rfl, by decide +kernel, by decide +kernel⟩
theorem ok_L_turned (T : Fx mg) (D : Df K mg "_law_turned" sL_turned) : Cl P w K mg base 1 "_law_turned" (spF K 2 R_turn) := by
  refine cl_F D scL_turned rfl (fun _ _ _ _ _ _ us hl => match us, hl with | [_, _], _ => rfl) ?_
  intro f cdv A outer s H vs Q E ds d hr ht hR q
  obtain ⟨W, gs, b, hW, hc, hb, rfl, rfl⟩ := hR
  obtain ⟨v1, v2, rfl, h1, h2⟩ := ht.two
  refine ⟨_, (pss_cons (ps_set (i := 1) scL_turned.nd rfl (.inr rfl) (pe_callTy (kc_list (K := K)) (by rfl) T.list bt_list (pa_cons (pv 1) pa_nil)))
      (pss_cons (ps_for PassesOwn.never rfl (kp_tup (K := K) (pv 0)) (kg_tup (K := K) (n := 2) rfl (pgs_cons (pg_name (i := 2) scL_turned.nd rfl (.inl rfl)) (pgs_cons (pg_name (i := 3) scL_turned.nd rfl (.inl rfl)) pgs_nil))) (pss_one (ps_if (pt_cmpR (ko_eqD (K := K) hr.units) (pe_lc (own := [("_law_wire", 4), ("_law_value_here", 5)]) (g := gTup K 2 (gCons (gName 4) (gCons (gName 5) (gNil)))) rfl scL_turned.nd (kp_tup (K := K) (pv 3)) (blkOk_by (own := [("_law_wire", 4), ("_law_value_here", 5)]) (N := NL_turned) (sc := defScope sL_turned) (by decide +kernel)) (fun _ _ _ _ _ => (kg_tup (K := K) (n := 2) rfl (pgs_cons (pg_name (i := 4) scL_turned.nd rfl (.inl rfl)) (pgs_cons (pg_name (i := 5) scL_turned.nd rfl (.inl rfl)) pgs_nil)))) (fun _ _ _ _ _ => pts_one (pt_cmpR op_ne (pe_ix (kx_list (K := K)) (pv 1) (pv 4) (fun _ _ => rfl)) (pv 5) (nomark _))) (fun _ _ _ _ _ => (pv 4))) (pe_lst pa_nil) (nomark _)) (pss_one (ps_asg (pe_op op_sub pe_int (pe_ix (kx_list (K := K)) (pv 1) (pv 2) (fun _ _ => rfl))) (pg_sub (pv 1) (pv 2) set_list))) pss_nil)))
      (pss_one (ps_ret (pe_callTy (kc_tup (K := K)) (by rfl) T.tuple bt_tuple (pa_cons (pv 1) pa_nil)))))), ?_⟩
  show KP _ [some v1, some v2, none, none, none, none] H
  refine k_setL (ds := b.map .int) (el_listT (ed_var rfl h2)) fun p vs H1 np e1 hp hv => ?_
  have hv' := hv.ints
  subst hv'
  have j1 := h1.up e1
  dsimp only
  have hlen := hb.len
  refine k_seq (k_turn (W := W) (b := b) (gs := gs) (p := p) hc hb hW (wd_tup (ds := gs.map encG) (ed_var rfl j1)) hp rfl (by decide) (by decide) (by decide) (by simp) (by simp) (fun v H' b' g bk gk e3 r2 => ?_) fun x y Hs H2 s1 s2 s3 => ?_)
  · have hl' := bk.len
    have gl := gok_small gk hW
    have le : EL K (tLc (iTup K (tVar 3)) (gTup K 2 (gCons (gName 4) (gCons (gName 5) gNil))) (tTest (tOp rNe (tOp (rIxL K) (tVar 1) (tVar 4)) (tVar 5))) (tVar 4) (List.map (fun x => x.snd) [((Str.ofString "_law_wire"), 4), (Str.ofString "_law_value_here", 5)]))
        ((([some v1, some v2, none, none, none, none].set 1 (some (V.ref p))).set 2 (some (V.int g.1))).set 3 (some v)) H' (((g.2.map encC).filter fun d => !decide (at' b' (asC d).1 = (asC d).2)).map fun d => .int (asC d).1) := by
      refine el_lc (fun d => !decide (at' b' (asC d).1 = (asC d).2)) (fun d => .int (asC d).1) (wd_mono (wd_tup (ds := g.2.map encC) (ed_var rfl r2)) fun _ _ => wx_same) (fun i d v' H' s' hd q => ?_) (by rw [List.length_map]; omega)
      obtain ⟨ct, hct, rfl⟩ := map_at hd
      obtain ⟨z1, z2, _⟩ := gk.ctl ct (List.mem_of_getElem? hct)
      refine turn_pair (d1 := .int ct.1) (d2 := .int ct.2) q fun x1 x2 q1 q2 => ⟨rfl, ?_, fun _ => ed_var rfl q1⟩
      exact et_T (K := K) (ed_neI (ed_ixV (s' _ _ e3) (TDs.of_ints _) (ev_var rfl) (ed_var rfl q1) (at_bits z1 (by omega))) (ed_var rfl q2))
    have eq : (((g.2.map encC).filter fun d => !decide (at' b' (asC d).1 = (asC d).2)).map fun d => PyData.int (asC d).1) = ((g.2.filter fun c => !decide (at' b' c.1 = c.2)).map (·.1)).map PyData.int := by
      rw [List.filter_map, List.map_map, List.map_map]
      rfl
    rw [eq] at le
    refine et_T (K := K) (ed_is (ed_eqNil le (sh_ints _).1 (sh_ints _).2 rfl) ?_)
    rw [eqv_nilL]
    congr 1
    unfold fire
    rw [List.isEmpty_map, List.isEmpty_map]
    cases hz : (g.2.filter fun c => !decide (at' b' c.1 = c.2)) with
    | nil =>
      refine (List.all_eq_true.mpr fun c m => ?_).symm
      have := List.filter_eq_nil_iff.mp hz c m
      simpa using this
    | cons c r =>
      have hm : c ∈ g.2.filter fun c => !decide (at' b' c.1 = c.2) := by rw [hz]; exact List.mem_cons_self
      obtain ⟨m1, m2⟩ := List.mem_filter.mp hm
      refine (List.all_eq_false.mpr ⟨c, m1, ?_⟩).symm
      simpa using m2
  · have s4 : Same H H2 := fun q o hq => s2 q o (fun z => by rw [z, np] at hq; cases hq) (s1 _ _ (e1 _ _ hq))
    dsimp only
    apply k_at
    refine k_ret (K := K) (d := .tuple ((runL gs b).map PyData.int)) (ed_tupV s3 (TDs.of_ints _) (ev_var rfl)) fun v3 H3 s5 q3 => q v3 H3 (s4.trans s5) q3
end
end Bk

set_option Elab.async false
set_option linter.all false
set_option maxRecDepth 100000
set_option maxHeartbeats 4000000
namespace Bk
open PySem PySem.Spec PyProof.Rows L2

local macro_rules | `(tactic| walk_at "ed") => `(tactic| first
  | assumption
  | exact ed_int | exact ed_bl | exact ed_non | exact ed_str | exact ea_nil | exact ep_none | exact et_yes
  | (apply ed_var rfl; assumption)
  | (apply ea_cons; walk_at "ed"; walk_at "ed")
  | (apply ed_ix; walk_at "ed"; walk_at "ed"; rfl)
  | (apply et_B; walk_at "ed")
  | (apply et_T; walk_at "ed")
  | (apply ed_tup; walk_at "ed"; (apply le_line; simp only [List.length_cons, List.length_nil]; omega))
  | (apply ed_eqI; walk_at "ed"; walk_at "ed")
  | (apply ed_neI; walk_at "ed"; walk_at "ed")
  | (apply ed_eqS; walk_at "ed"; walk_at "ed")
  | (apply ed_neS; walk_at "ed"; walk_at "ed")
  | (apply ed_I0; walk_at "ed"; walk_at "ed")
  | (apply ed_B0; walk_at "ed"; walk_at "ed")
  | (apply ed_neg; walk_at "ed")
  | (apply ed_isN; walk_at "ed")
  | (apply ed_notN; walk_at "ed")
  | (apply ed_lenT; walk_at "ed")
  | (apply ep_some; walk_at "ed")
  | (apply ed_sl; walk_at "ed"; walk_at "ed"; walk_at "ed")
  | (apply el_lst; walk_at "ed"; (apply le_line; simp only [List.length_cons, List.length_nil]; omega))
  | (apply ed_tupL; walk_at "ed")
  | (apply et_not; walk_at "ed")
  | (apply ed_notV; walk_at "ed")
  | (apply ed_isInt; walk_at "ed")
  | (apply ed_isBool; walk_at "ed")
  | (apply ed_isTup; walk_at "ed")
  | (apply ed_isStr; walk_at "ed")
  | (apply ed_andF; walk_at "ed"; rfl)
  | (apply ed_andT; walk_at "ed"; rfl; walk_at "ed")
  | (apply ed_orT; walk_at "ed"; rfl)
  | (apply ed_orF; walk_at "ed"; rfl; walk_at "ed")
  | (apply et_andF; walk_at "ed"; rfl)
  | (apply et_andT; walk_at "ed"; rfl; walk_at "ed")
  | (apply et_orT; walk_at "ed"; rfl)
  | (apply et_orF; walk_at "ed"; rfl; walk_at "ed")
  | (apply ed_andV; walk_at "ed"; (intro _; walk_at "ed"))
  | (apply ed_orV; walk_at "ed"; (intro _; walk_at "ed"))
  | (apply et_and; walk_at "ed"; (intro _; walk_at "ed"))
  | (apply et_or; walk_at "ed"; (intro _; walk_at "ed")))

section
variable {P : Program} {w : World} {K : PySem.W.Frag} {mg : Str → Option Value} {base : Heap}
theorem exists_max (x : Int) : ∀ r : List Int, ∃ m, m ∈ x :: r ∧ ∀ y ∈ x :: r, y ≤ m
  | [] => ⟨x, List.mem_cons_self, fun y m => by rw [List.mem_singleton.mp m]; exact Int.le_refl _⟩
  | y :: r => by
    obtain ⟨m, h1, h2⟩ := exists_max x r
    have hx := h2 x List.mem_cons_self
    by_cases h : m ≤ y
    · refine ⟨y, by simp, fun z hz => ?_⟩
      rcases List.mem_cons.mp hz with rfl | hz
      · omega
      rcases List.mem_cons.mp hz with rfl | hz
      · omega
      · have := h2 z (List.mem_cons_of_mem _ hz)
        omega
    · refine ⟨m, ?_, fun z hz => ?_⟩
      · rcases List.mem_cons.mp h1 with rfl | h1
        · simp
        · simp [h1]
      · rcases List.mem_cons.mp hz with rfl | hz
        · omega
        rcases List.mem_cons.mp hz with rfl | hz
        · omega
        · have := h2 z (List.mem_cons_of_mem _ hz)
          omega
theorem ed_max {σ : L2.St} {H : Hp} {ta : TE} {ns : List Int} {m0 : Int} (h0 : m0 ∈ ns) (h1 : ∀ y ∈ ns, y ≤ m0) (h : EL K ta σ H (ns.map PyData.int)) : ED K (tCB (rMax K) (tCons ta tNil)) σ H (.int m0) := fun H1 a Q k =>
  h H1 a _ fun p vs H2 np b hp q => ⟨p, ns, rfl, by rw [← q.ints]; exact .inl (.inl hp), List.length_pos_of_mem h0, fun m hm hy => by
    have e1 := h1 m hm
    have e2 := hy m0 h0
    have e : m = m0 := by omega
    rw [e]
    exact k _ H2 b (.int _)⟩
def hereOf (c : Circ) (i : Nat) (wd : Wd) : List Gate := (c.2.drop i).take wd.use
def StS (x : PyData) : Prop := ∀ g, gateD x = some g → g.2.length ≤ 1000
def R_newg (ds : List PyData) (d : PyData) : Prop := ∃ (W : Int) (c : Circ) (wd : Wd) (i : Nat) (r : List PyData), W ≤ 6 ∧ CS W c ∧ r.length + 2 = wd.len ∧ i + wd.use ≤ c.2.length ∧ StS (r.headD .none) ∧
  ds = [encCi c, .tuple (.str wd.name :: .int i :: r), encGs (hereOf c i wd)] ∧ d = encO encGs (newOf c.1 (r.headD .none) (gAt c.2 i) (gAt c.2 (i + 1)) wd)
abbrev Nnew_gates : List Str := ["circuit", "step", "here", "word", "gate"]
theorem scnew_gates : FnScope Nnew_gates ["circuit", "step", "here"] (defScope snew_gates) := ⟨rfl, rfl, rfl, by decide +kernel, rfl, by decide +kernel, by decide +kernel⟩
theorem ok_new_gates (T : Fx mg) (D : Df K mg "new_gates" snew_gates) (c_is_number : Cl P w K mg base 1 "is_number" (spF K 1 R_isnum)) (c_is_gate : Cl P w K mg base 2 "is_gate" (spF K 1 R_isgate)) (c_wires_of : Cl P w K mg base 1 "wires_of" (spL K 1 R_wires))
    (c_exchanged : Cl P w K mg base 2 "exchanged" (spF K 2 R_exch)) (c_merged : Cl P w K mg base 1 "merged" (spF K 2 R_merged)) (c_split : Cl P w K mg base 2 "split" (spF K 2 R_split)) (c_passed : Cl P w K mg base 2 "passed" (spF K 2 R_passed)) : Cl P w K mg base 3 "new_gates" (spF K 3 R_newg) := by
  refine cl_F D scnew_gates rfl (fun _ _ _ _ _ _ us hl => match us, hl with | [_, _, _], _ => rfl) ?_
  intro f cdv A outer s H vs Q E ds d hr ht hR q
  obtain ⟨W, c, wd, i, r, hW, hc, hr2, hi, hss, rfl, rfl⟩ := hR
  obtain ⟨v1, v2, v3, rfl, h1, h2, h3⟩ := ht.three
  refine ⟨_, (pss_cons (ps_set (i := 3) scnew_gates.nd rfl (.inl rfl) (pe_ix (kx_tup (K := K)) (pv 1) pe_int (fun _ _ => rfl)))
      (pss_cons (ps_if (pt_cmpR op_eq (pv 3) pe_str (nomark _)) (pss_one (ps_ret (pe_ifExp (pt_cmpR (ko_eqD (K := K) hr.units) (pe_ix (kx_tup (K := K)) (pv 2) pe_int (fun _ _ => rfl)) (pe_ix (kx_tup (K := K)) (pv 2) pe_int (fun _ _ => rfl)) (nomark _)) (pe_tupP pa_nil) pe_non))) pss_nil)
      (pss_cons (ps_if (pt_cmpR op_eq (pv 3) pe_str (nomark _)) (pss_cons (ps_if (PW.pt (pw_or (pt_not (pt_val (pe_cl c_is_gate hr (by omega) (by rfl) (pa_cons (pe_ix (kx_tup (K := K)) (pv 1) pe_int (fun _ _ => rfl)) pa_nil)))) (pw_or1 (pt_cmpR op_ge (pe_callB (kc_max (K := K) rfl) (by rfl) T.max bt_max (pa_cons (pe_cl c_wires_of hr (by omega) (by rfl) (pa_cons (pe_ix (kx_tup (K := K)) (pv 1) pe_int (fun _ _ => rfl)) pa_nil)) pa_nil)) (pe_ix (kx_tup (K := K)) (pv 0) pe_int (fun _ _ => rfl)) (nomark _))))) (pss_one (ps_ret pe_non)) pss_nil)
        (pss_one (ps_ret (pe_tupP (pa_cons (pe_ix (kx_tup (K := K)) (pv 1) pe_int (fun _ _ => rfl)) (pa_cons (pe_ix (kx_tup (K := K)) (pv 1) pe_int (fun _ _ => rfl)) pa_nil)))))) pss_nil)
      (pss_cons (ps_if (pt_cmpR op_eq (pv 3) pe_str (nomark _)) (pss_one (ps_ret (pe_cl c_exchanged hr (by omega) (by rfl) (pa_cons (pe_ix (kx_tup (K := K)) (pv 2) pe_int (fun _ _ => rfl)) (pa_cons (pe_ix (kx_tup (K := K)) (pv 2) pe_int (fun _ _ => rfl)) pa_nil))))) pss_nil)
      (pss_cons (ps_if (pt_cmpR op_eq (pv 3) pe_str (nomark _)) (pss_cons (ps_set (i := 4) scnew_gates.nd rfl (.inl rfl) (pe_cl c_merged hr (by omega) (by rfl) (pa_cons (pe_ix (kx_tup (K := K)) (pv 2) pe_int (fun _ _ => rfl)) (pa_cons (pe_ix (kx_tup (K := K)) (pv 2) pe_int (fun _ _ => rfl)) pa_nil))))
        (pss_one (ps_ret (pe_ifExp (pt_cmp (pc_isN (pv 4))) pe_non (pe_tupP (pa_cons (pv 4) pa_nil)))))) pss_nil)
      (pss_cons (ps_if (pt_cmpR op_eq (pv 3) pe_str (nomark _)) (pss_cons (ps_if (PW.pt (pw_or (pt_not (pt_val (pe_cl c_is_number hr (by omega) (by rfl) (pa_cons (pe_ix (kx_tup (K := K)) (pv 1) pe_int (fun _ _ => rfl)) pa_nil)))) (pw_or1 (pt_cmpR op_ge (pe_ix (kx_tup (K := K)) (pv 1) pe_int (fun _ _ => rfl)) (pe_ix (kx_tup (K := K)) (pv 0) pe_int (fun _ _ => rfl)) (nomark _))))) (pss_one (ps_ret pe_non)) pss_nil)
        (pss_one (ps_ret (pe_cl c_split hr (by omega) (by rfl) (pa_cons (pe_ix (kx_tup (K := K)) (pv 2) pe_int (fun _ _ => rfl)) (pa_cons (pe_ix (kx_tup (K := K)) (pv 1) pe_int (fun _ _ => rfl)) pa_nil)))))) pss_nil)
      (pss_one (ps_ret (pe_cl c_passed hr (by omega) (by rfl) (pa_cons (pe_ix (kx_tup (K := K)) (pv 2) pe_int (fun _ _ => rfl)) (pa_cons (pe_ix (kx_tup (K := K)) (pv 2) pe_int (fun _ _ => rfl)) pa_nil))))))))))), ?_⟩
  show KP _ [some v1, some v2, some v3, none, none] H
  have i1 : TD K H v1 (.tuple [.int c.1, encGs c.2]) := h1
  have cw := hc.w
  have go : ∀ (v : V) (H' : Hp) (o : Option (List Gate)), Same H H' → newOf c.1 (r.headD .none) (gAt c.2 i) (gAt c.2 (i + 1)) wd = o → TD K H' v (encO encGs o) → Q v H' := fun v H' o e1 e2 e3 => q v H' e1 (by rw [e2]; exact e3)
  clear q
  refine k_set (K := K) (d := .str wd.name) (ed_ix (ed_var rfl h2) ed_int (atI_of (by decide) rfl)) fun v4 H1 e1 q1 => ?_
  cases q1.str_eq
  replace go : ∀ (v : V) (H' : Hp) (o : Option (List Gate)), Same H1 H' → newOf c.1 (r.headD .none) (gAt c.2 i) (gAt c.2 (i + 1)) wd = o → TD K H' v (encO encGs o) → Q v H' := fun v H' o s1 e2 e3 => go v H' o (e1.trans s1) e2 e3
  replace i1 := i1.up e1
  replace h2 := h2.up e1
  replace h3 := h3.up e1
  clear h1 ht e1 q1
  have two : wd.use = 2 → hereOf c i wd = [gAt c.2 i, gAt c.2 (i + 1)] := fun e => by
    unfold hereOf
    rw [e] at hi ⊢
    have e3 := getD_at (gs := c.2) (i := i) (by omega)
    have e4 := getD_at (gs := c.2) (i := i + 1) (by omega)
    rw [List.take_add_one, List.take_add_one, List.take_zero, List.getElem?_drop, List.getElem?_drop, Nat.add_zero, e3, e4]
    rfl
  have gsm : ∀ j, j < c.2.length → GS (gAt c.2 j) := fun j hj => (hc.g _ (gAt_mem hj)).gs hW
  have test : ∀ {u : V} {σ : L2.St} {tr : TE} {z : Wd} {b : Bool}, σ[3]? = some (some (.str wd.name)) → decide (wd.name = z.name) = b → ET (tTest (tOp rEq (tVar 3) (tC (.str z.name)))) σ H1 b := fun hs e => et_is (et_T (K := K) (ed_eqS (ed_var hs (.str _)) ed_str)) e
  dsimp only
  cases wd with
  | cancel =>
    have h3' : TD K H1 v3 (.tuple [encG (gAt c.2 i), encG (gAt c.2 (i + 1))]) := by
      rw [two rfl] at h3
      exact h3
    refine k_if1 (b := true) (test (z := .cancel) (u := v1) (tr := tVar 0) rfl (by decide)) (fun _ => ?_) (fun h => by cases h)
    refine k_ret (K := K) (d := if gAt c.2 i = gAt c.2 (i + 1) then .tuple [] else .none) (ed_if (b := decide (gAt c.2 i = gAt c.2 (i + 1))) ?_ (fun h => ?_) (fun h => ?_)) fun v H2 s2 q2 => go v H2 (if gAt c.2 i = gAt c.2 (i + 1) then some [] else none) s2 rfl ?_
    · refine et_is (et_T (K := K) (ed_eqE (ed_ix (ed_var rfl h3') ed_int rfl) (ed_ix (ed_var rfl h3') ed_int rfl) (eo_G _) (eo_G _))) (eqv_G _ _)
    · rw [if_pos (by simpa using h)]
      exact ed_tup ea_nil
    · rw [if_neg (by simpa using h)]
      exact ed_non
    · by_cases h : gAt c.2 i = gAt c.2 (i + 1)
      · rw [if_pos h] at q2 ⊢
        exact q2
      · rw [if_neg h] at q2 ⊢
        exact q2
  | pair =>
    match r, hr2 with
    | [x], _ =>
    refine k_if1 (b := false) (test (z := .cancel) (u := v1) (tr := tVar 0) rfl (by decide)) (fun h => by cases h) (fun _ => ?_)
    dsimp only
    refine k_if1 (b := true) (test (z := .pair) (u := v1) (tr := tVar 0) rfl (by decide)) (fun _ => ?_) (fun h => by cases h)
    have hx : ∀ {H'}, Same H1 H' → ED K (tOp (rIxT K) (tVar 1) (tC (V.int 2))) [some v1, some v2, some v3, some (.str Wd.pair.name), none] H' x := fun e => ed_ix (ed_var rfl (h2.up e)) ed_int rfl
    refine k_if1 (b := !(match gateD x with | some g => inW c.1 g | none => false)) ?_ (fun hb => ?_) (fun hb => ?_)
    · cases hg : gateD x with
      | none => exact et_orT (et_not (et_B (K := K) (ed_call (ds := [x]) (ea_cons (hx (Same.refl _)) ea_nil) ⟨x, rfl, rfl⟩))) (by rw [hg]; rfl)
      | some g =>
        refine et_orF (et_not (et_B (K := K) (ed_call (ds := [x]) (ea_cons (hx (Same.refl _)) ea_nil) ⟨x, rfl, rfl⟩))) (by rw [hg]; rfl) ?_
        have hl := hss g hg
        have hd := (gateD_ok hg).1
        subst hd
        obtain ⟨m0, a1, a2⟩ := exists_max g.1 (keys g.2)
        refine et_is (et_T (K := K) (ed_B0 (ed_max a1 a2 (el_call (ds := [encG g]) (ea_cons (hx (Same.refl _)) ea_nil) ⟨g, hl, rfl, rfl⟩)) (ed_ix (ed_var rfl i1) ed_int rfl))) ?_
        show decide (c.1 ≤ m0) = !(inW c.1 g)
        by_cases hm : c.1 ≤ m0
        · have : inW c.1 g = false := List.all_eq_false.mpr ⟨m0, a1, by simpa using hm⟩
          rw [this, decide_eq_true hm]
          rfl
        · have : inW c.1 g = true := List.all_eq_true.mpr fun y my => by
            have := a2 y my
            simpa using (by omega : y < c.1)
          rw [this, decide_eq_false hm]
          rfl
    · refine k_ret (K := K) (d := .none) ed_non fun v H2 s2 q2 => go v H2 none s2 ?_ q2
      show (match gateD x with | some g => if inW c.1 g then some [g, g] else none | none => none) = none
      cases hg : gateD x with
      | none => rfl
      | some g =>
        rw [hg] at hb
        have : inW c.1 g = false := by simpa using hb
        show (if inW c.1 g then some [g, g] else none) = none
        rw [if_neg (by rw [this]; decide)]
    · cases hg : gateD x with
      | none => rw [hg] at hb; cases hb
      | some g =>
        rw [hg] at hb
        have hw : inW c.1 g = true := by simpa using hb
        have hd := (gateD_ok hg).1
        subst hd
        dsimp only
        refine k_ret (K := K) (d := .tuple [encG g, encG g]) (ed_tup (ea_cons (hx (Same.refl _)) (ea_cons (hx (Same.refl _)) ea_nil)) (le_line (by simp))) fun v H2 s2 q2 => go v H2 (some [g, g]) s2 ?_ q2
        show (match gateD (encG g) with | some g => if inW c.1 g then some [g, g] else none | none => none) = some [g, g]
        rw [hg]
        show (if inW c.1 g then some [g, g] else none) = _
        rw [if_pos hw]
  | exchange =>
    have h3' : TD K H1 v3 (.tuple [encG (gAt c.2 i), encG (gAt c.2 (i + 1))]) := by
      rw [two rfl] at h3
      exact h3
    have hi' : i + 2 ≤ c.2.length := hi
    refine k_if1 (b := false) (test (z := .cancel) (u := v1) (tr := tVar 0) rfl (by decide)) (fun h => by cases h) (fun _ => ?_)
    dsimp only
    refine k_if1 (b := false) (test (z := .pair) (u := v1) (tr := tVar 0) rfl (by decide)) (fun h => by cases h) (fun _ => ?_)
    dsimp only
    refine k_if1 (b := true) (test (z := .exchange) (u := v1) (tr := tVar 0) rfl (by decide)) (fun _ => ?_) (fun h => by cases h)
    refine k_ret (K := K) (d := if exch (gAt c.2 i) (gAt c.2 (i + 1)) then .tuple [encG (gAt c.2 (i + 1)), encG (gAt c.2 i)] else .none) (ed_call (ds := [encG (gAt c.2 i), encG (gAt c.2 (i + 1))]) ?_ ⟨_, _, gsm _ (by omega), gsm _ (by omega), rfl, rfl⟩) fun v H2 s2 q2 => go v H2 (if exch (gAt c.2 i) (gAt c.2 (i + 1)) then some [gAt c.2 (i + 1), gAt c.2 i] else none) s2 rfl ?_
    · exact ea_cons (ed_ix (ed_var rfl h3') ed_int rfl) (ea_cons (ed_ix (ed_var rfl h3') ed_int rfl) ea_nil)
    · by_cases h : exch (gAt c.2 i) (gAt c.2 (i + 1)) = true
      · rw [if_pos h] at q2 ⊢
        exact q2
      · rw [if_neg h] at q2 ⊢
        exact q2
  | merge =>
    have h3' : TD K H1 v3 (.tuple [encG (gAt c.2 i), encG (gAt c.2 (i + 1))]) := by
      rw [two rfl] at h3
      exact h3
    have hi' : i + 2 ≤ c.2.length := hi
    refine k_if1 (b := false) (test (z := .cancel) (u := v1) (tr := tVar 0) rfl (by decide)) (fun h => by cases h) (fun _ => ?_)
    dsimp only
    refine k_if1 (b := false) (test (z := .pair) (u := v1) (tr := tVar 0) rfl (by decide)) (fun h => by cases h) (fun _ => ?_)
    dsimp only
    refine k_if1 (b := false) (test (z := .exchange) (u := v1) (tr := tVar 0) rfl (by decide)) (fun h => by cases h) (fun _ => ?_)
    dsimp only
    refine k_if1 (b := true) (test (z := .merge) (u := v1) (tr := tVar 0) rfl (by decide)) (fun _ => ?_) (fun h => by cases h)
    refine k_set (K := K) (d := encO encG (merged (gAt c.2 i) (gAt c.2 (i + 1)))) (ed_call (ds := [encG (gAt c.2 i), encG (gAt c.2 (i + 1))]) ?_ ⟨_, _, gsm _ (by omega), gsm _ (by omega), rfl, rfl⟩) fun v5 H2 s2 q2 => ?_
    · exact ea_cons (ed_ix (ed_var rfl h3') ed_int rfl) (ea_cons (ed_ix (ed_var rfl h3') ed_int rfl) ea_nil)
    dsimp only
    have hm : newOf c.1 (r.headD .none) (gAt c.2 i) (gAt c.2 (i + 1)) .merge = (merged (gAt c.2 i) (gAt c.2 (i + 1))).map fun m => [m] := rfl
    cases hmm : merged (gAt c.2 i) (gAt c.2 (i + 1)) with
    | none =>
      rw [hmm] at q2 hm
      refine k_ret (K := K) (d := .none) (ed_if (b := true) ?_ (fun _ => ed_non) (fun h => by cases h)) fun v H3 s3 q3 => go v H3 none (s2.trans s3) hm q3
      exact et_B (K := K) (ed_isN (d := .none) (ed_var rfl q2))
    | some m =>
      rw [hmm] at q2 hm
      refine k_ret (K := K) (d := .tuple [encG m]) (ed_if (b := false) ?_ (fun h => by cases h) (fun _ => ed_tup (ea_cons (ed_var rfl q2) ea_nil) (le_line (by simp)))) fun v H3 s3 q3 => go v H3 (some [m]) (s2.trans s3) hm q3
      exact et_B (K := K) (ed_isN (d := encG m) (ed_var rfl q2))
  | split =>
    have hi' : i + 1 ≤ c.2.length := hi
    have h3' : TD K H1 v3 (.tuple [encG (gAt c.2 i)]) := by
      have e : hereOf c i .split = [gAt c.2 i] := by
        unfold hereOf
        show List.take 1 _ = _
        rw [List.take_add_one, List.take_zero, List.getElem?_drop, Nat.add_zero, getD_at (by omega)]
        rfl
      rw [e] at h3
      exact h3
    match r, hr2 with
    | [x], _ =>
    refine k_if1 (b := false) (test (z := .cancel) (u := v1) (tr := tVar 0) rfl (by decide)) (fun h => by cases h) (fun _ => ?_)
    dsimp only
    refine k_if1 (b := false) (test (z := .pair) (u := v1) (tr := tVar 0) rfl (by decide)) (fun h => by cases h) (fun _ => ?_)
    dsimp only
    refine k_if1 (b := false) (test (z := .exchange) (u := v1) (tr := tVar 0) rfl (by decide)) (fun h => by cases h) (fun _ => ?_)
    dsimp only
    refine k_if1 (b := false) (test (z := .merge) (u := v1) (tr := tVar 0) rfl (by decide)) (fun h => by cases h) (fun _ => ?_)
    dsimp only
    refine k_if1 (b := true) (test (z := .split) (u := v1) (tr := tVar 0) rfl (by decide)) (fun _ => ?_) (fun h => by cases h)
    have hx : ∀ {H'}, Same H1 H' → ED K (tOp (rIxT K) (tVar 1) (tC (V.int 2))) [some v1, some v2, some v3, some (.str Wd.split.name), none] H' x := fun e => ed_ix (ed_var rfl (h2.up e)) ed_int rfl
    have hn' : ∀ y : PyData, newOf c.1 y (gAt c.2 i) (gAt c.2 (i + 1)) .split = match y with | .int k => if 0 ≤ k ∧ k < c.1 then splitG (gAt c.2 i) k else none | _ => none := fun _ => rfl
    cases hb : isNumD x with
    | false =>
      refine k_if1 (b := true) (et_orT (et_not (et_B (K := K) (ed_call (ds := [x]) (ea_cons (hx (Same.refl _)) ea_nil) ⟨x, rfl, rfl⟩))) (by rw [hb]; rfl)) (fun _ => ?_) (fun h => by cases h)
      refine k_ret (K := K) (d := .none) ed_non fun v H2 s2 q2 => go v H2 none s2 ?_ q2
      refine (hn' x).trans ?_
      cases x with
      | int y =>
        refine if_neg fun h => ?_
        rw [show isNumD (.int y) = decide (0 ≤ y) from rfl, decide_eq_true h.1] at hb
        cases hb
      | _ => rfl
    | true =>
      obtain ⟨kk, hkk, hk⟩ := isNum_iff hb
      subst hkk
      refine k_if1 (b := decide (c.1 ≤ kk)) (et_orF (et_not (et_B (K := K) (ed_call (ds := [.int kk]) (ea_cons (hx (Same.refl _)) ea_nil) ⟨_, rfl, rfl⟩))) (by rw [hb]; rfl) (et_T (K := K) (ed_B0 (hx (Same.refl _)) (ed_ix (ed_var rfl i1) ed_int rfl)))) (fun h => ?_) (fun h => ?_)
      · refine k_ret (K := K) (d := .none) ed_non fun v H2 s2 q2 => go v H2 none s2 ?_ q2
        refine (hn' (.int _)).trans ?_
        show (if 0 ≤ kk ∧ kk < c.1 then _ else none) = none
        have := of_decide_eq_true h
        rw [if_neg (by omega)]
      · dsimp only
        refine k_ret (K := K) (d := encO encGs (splitG (gAt c.2 i) kk)) (ed_call (ds := [encG (gAt c.2 i), .int kk]) (ea_cons (ed_ix (ed_var rfl h3') ed_int rfl) (ea_cons (hx (Same.refl _)) ea_nil)) ⟨_, _, gsm _ (by omega), rfl, rfl⟩) fun v H2 s2 q2 => go v H2 (splitG (gAt c.2 i) kk) s2 ?_ q2
        refine (hn' (.int _)).trans ?_
        show (if 0 ≤ kk ∧ kk < c.1 then _ else none) = _
        have := of_decide_eq_false h
        rw [if_pos (by omega)]
  | pass =>
    have h3' : TD K H1 v3 (.tuple [encG (gAt c.2 i), encG (gAt c.2 (i + 1))]) := by
      rw [two rfl] at h3
      exact h3
    have hi' : i + 2 ≤ c.2.length := hi
    refine k_if1 (b := false) (test (z := .cancel) (u := v1) (tr := tVar 0) rfl (by decide)) (fun h => by cases h) (fun _ => ?_)
    dsimp only
    refine k_if1 (b := false) (test (z := .pair) (u := v1) (tr := tVar 0) rfl (by decide)) (fun h => by cases h) (fun _ => ?_)
    dsimp only
    refine k_if1 (b := false) (test (z := .exchange) (u := v1) (tr := tVar 0) rfl (by decide)) (fun h => by cases h) (fun _ => ?_)
    dsimp only
    refine k_if1 (b := false) (test (z := .merge) (u := v1) (tr := tVar 0) rfl (by decide)) (fun h => by cases h) (fun _ => ?_)
    dsimp only
    refine k_if1 (b := false) (test (z := .split) (u := v1) (tr := tVar 0) rfl (by decide)) (fun h => by cases h) (fun _ => ?_)
    dsimp only
    refine k_ret (K := K) (d := encO (fun m => encGs [gAt c.2 (i + 1), gAt c.2 i, m]) (passed (gAt c.2 i) (gAt c.2 (i + 1)))) (ed_call (ds := [encG (gAt c.2 i), encG (gAt c.2 (i + 1))]) ?_ ⟨_, _, gsm _ (by omega), gsm _ (by omega), rfl, rfl⟩) fun v H2 s2 q2 => go v H2 ((passed (gAt c.2 i) (gAt c.2 (i + 1))).map fun m => [gAt c.2 (i + 1), gAt c.2 i, m]) s2 rfl ?_
    · exact ea_cons (ed_ix (ed_var rfl h3') ed_int rfl) (ea_cons (ed_ix (ed_var rfl h3') ed_int rfl) ea_nil)
    · cases hp : passed (gAt c.2 i) (gAt c.2 (i + 1)) with
      | none => rw [hp] at q2; exact q2
      | some m => rw [hp] at q2; exact q2
end
end Bk

set_option Elab.async false
set_option linter.all false
set_option maxRecDepth 100000
set_option maxHeartbeats 4000000
namespace Bk
open PySem PySem.Spec PyProof.Rows L2

local macro_rules | `(tactic| walk_at "ed") => `(tactic| first
  | assumption
  | exact ed_int | exact ed_bl | exact ed_non | exact ed_str | exact ea_nil | exact ep_none | exact et_yes
  | (apply ed_var rfl; assumption)
  | (apply ea_cons; walk_at "ed"; walk_at "ed")
  | (apply ed_ix; walk_at "ed"; walk_at "ed"; rfl)
  | (apply et_B; walk_at "ed")
  | (apply et_T; walk_at "ed")
  | (apply ed_tup; walk_at "ed"; (apply le_line; simp only [List.length_cons, List.length_nil]; omega))
  | (apply ed_eqI; walk_at "ed"; walk_at "ed")
  | (apply ed_neI; walk_at "ed"; walk_at "ed")
  | (apply ed_eqS; walk_at "ed"; walk_at "ed")
  | (apply ed_neS; walk_at "ed"; walk_at "ed")
  | (apply ed_I0; walk_at "ed"; walk_at "ed")
  | (apply ed_B0; walk_at "ed"; walk_at "ed")
  | (apply ed_neg; walk_at "ed")
  | (apply ed_isN; walk_at "ed")
  | (apply ed_notN; walk_at "ed")
  | (apply ed_lenT; walk_at "ed")
  | (apply ep_some; walk_at "ed")
  | (apply ed_sl; walk_at "ed"; walk_at "ed"; walk_at "ed")
  | (apply el_lst; walk_at "ed"; (apply le_line; simp only [List.length_cons, List.length_nil]; omega))
  | (apply ed_tupL; walk_at "ed")
  | (apply et_not; walk_at "ed")
  | (apply ed_notV; walk_at "ed")
  | (apply ed_isInt; walk_at "ed")
  | (apply ed_isBool; walk_at "ed")
  | (apply ed_isTup; walk_at "ed")
  | (apply ed_isStr; walk_at "ed")
  | (apply ed_andF; walk_at "ed"; rfl)
  | (apply ed_andT; walk_at "ed"; rfl; walk_at "ed")
  | (apply ed_orT; walk_at "ed"; rfl)
  | (apply ed_orF; walk_at "ed"; rfl; walk_at "ed")
  | (apply et_andF; walk_at "ed"; rfl)
  | (apply et_andT; walk_at "ed"; rfl; walk_at "ed")
  | (apply et_orT; walk_at "ed"; rfl)
  | (apply et_orF; walk_at "ed"; rfl; walk_at "ed")
  | (apply ed_andV; walk_at "ed"; (intro _; walk_at "ed"))
  | (apply ed_orV; walk_at "ed"; (intro _; walk_at "ed"))
  | (apply et_and; walk_at "ed"; (intro _; walk_at "ed"))
  | (apply et_or; walk_at "ed"; (intro _; walk_at "ed")))

section
variable {X : Cx} {K : PySem.W.Frag} {w : World} {d : Addr} {es : Array DictEntry} {n : Nat}
def rKNot (K : PySem.W.Frag) (d : Addr) : R2 := fun x y H Q => ∃ (z : Str) (r : Option Value), x = .str z ∧ y = .ref d ∧ PySem.W.nsIn K d z = some r ∧ Q (.bl (!r.isSome)) H
theorem ko_niK (D : KDict X.K X.w d es n) (h : X.K = K := by rfl) : OpR X (compareOp .NotIn) (rKNot K d) := by subst h; exact op_notIn_kd D
theorem kx_kd (h : X.K = K := by rfl) (hw : X.w = w := by rfl) : IxR X (rIxD K w) := by subst h hw; exact ix_kdict
end
section
variable {P : Program} {w : World} {K : PySem.W.Frag} {mg : Str → Option Value} {base : Heap}
/-- a table of the top, by the words -/
structure Tb (w : World) (K : PySem.W.Frag) (mg : Str → Option Value) (x : Str) (f : Wd → Nat) : Prop where
  ex : ∃ (a : Addr) (es : Array DictEntry) (n : Nat), mg x = some (.ref a) ∧ KDict K w a es n ∧ (∀ z, wdOf z = none → PySem.W.nsIn K a z = some none) ∧ ∀ wd : Wd, ∃ u, PySem.W.nsIn K a wd.name = some (some u) ∧ RelV (.int (f wd : Int)) u
theorem ed_kni {σ : L2.St} {H : Hp} {ta : TE} {a : Addr} {z : Str} {r : Option Value} (ha : ED K ta σ H (.str z)) (h : PySem.W.nsIn K a z = some r) : ED K (tOp (rKNot K a) ta (tC (.ref a))) σ H (.bool (!r.isSome)) := fun H1 s Q k =>
  ev_str ha H1 s _ fun H2 s2 => ⟨z, r, rfl, rfl, h, k _ H2 s2 (.bl _)⟩
theorem ed_kix {σ : L2.St} {H : Hp} {ta : TE} {a : Addr} {z : Str} {u : Value} {i : Int} {es : Array DictEntry} {n : Nat} (D : KDict K w a es n) (ha : ED K ta σ H (.str z)) (h : PySem.W.nsIn K a z = some (some u)) (hr : RelV (.int i) u) : ED K (tOp (rIxD K w) (tC (.ref a)) ta) σ H (.int i) := fun H1 s Q k =>
  ev_str ha H1 s _ fun H2 s2 => ⟨a, z, .int i, rfl, rfl, ⟨es, n, u, D.at_, D.lit, h, hr⟩, k _ H2 s2 (.int _)⟩
theorem cut_mid (gs : List Gate) (a b : Nat) (hb : b ≤ gs.length) (hab : a ≤ b) : cutD (gs.map encG) (some (a : Int)) (some (b : Int)) = ((gs.drop a).take (b - a)).map encG := by
  unfold cutD
  rw [HT.sIx_nat, HT.sIx_nat, List.length_map, Nat.min_eq_left hb, Nat.min_eq_left (Nat.le_trans hab hb), List.map_take, List.map_drop]
theorem cut_lo (gs : List Gate) (a : Nat) (ha : a ≤ gs.length) : cutD (gs.map encG) none (some (a : Int)) = (gs.take a).map encG := by
  unfold cutD
  rw [HT.sIx_nat, HT.sIx_none, List.length_map, Nat.min_eq_left ha, List.map_take]
  rfl
theorem cut_hi (gs : List Gate) (a : Nat) (ha : a ≤ gs.length) : cutD (gs.map encG) (some (a : Int)) none = (gs.drop a).map encG := by
  unfold cutD
  rw [HT.sIx_nat, HT.sIx_none, List.length_map, Nat.min_eq_left ha, List.map_drop]
  refine List.take_of_length_le ?_
  rw [List.length_drop, List.length_map]
  exact Nat.le_refl _
theorem newOf_len {W : Int} {x : PyData} {f s : Gate} {wd : Wd} {n : List Gate} (h : newOf W x f s wd = some n) : n.length ≤ 3 := by
  cases wd with
  | cancel =>
    simp only [newOf] at h
    split at h
    · cases h; simp
    · cases h
  | pair =>
    simp only [newOf] at h
    split at h
    · split at h
      · cases h; simp
      · cases h
    · cases h
  | exchange =>
    simp only [newOf] at h
    split at h
    · cases h; simp
    · cases h
  | merge =>
    simp only [newOf] at h
    cases hm : merged f s with
    | none => rw [hm] at h; cases h
    | some m => rw [hm] at h; cases h; simp
  | split =>
    simp only [newOf] at h
    split at h
    · split at h
      · unfold splitG at h
        split at h
        · cases h
        · cases h; simp
      · cases h
    · cases h
  | pass =>
    simp only [newOf] at h
    cases hm : passed f s with
    | none => rw [hm] at h; cases h
    | some m => rw [hm] at h; cases h; simp
def noS : PyData → Bool
  | .tuple (.str z :: _ :: _) => (wdOf z).isNone
  | _ => true
theorem noS_bad {x : PyData} (h : noS x = true) (c : Circ) : behind c x = none := by
  unfold behind
  split
  · rename_i z i r
    rw [show noS (.tuple (.str z :: .int i :: r)) = (wdOf z).isNone from rfl] at h
    rw [Option.isNone_iff_eq_none.mp h]
  · rfl
theorem noS_good {x : PyData} (h : noS x = false) : ∃ (wd : Wd) (y : PyData) (r : List PyData), x = .tuple (.str wd.name :: y :: r) := by
  unfold noS at h
  split at h
  · rename_i z y r
    cases hz : wdOf z with
    | none => rw [hz] at h; cases h
    | some wd => exact ⟨wd, y, r, by rw [← wd_some hz]⟩
  · cases h
theorem behind_bad {c : Circ} {wd : Wd} {y : PyData} {r : List PyData} (h : (!decide (r.length + 2 = wd.len) || !isNumD y) = true) : behind c (.tuple (.str wd.name :: y :: r)) = none := by
  unfold behind
  split
  · rename_i z i r' heq
    injection heq with heq
    injection heq with e1 e2
    injection e1 with e1
    injection e2 with e2 e3
    subst e1 e2 e3
    rw [wd_name]
    refine if_neg fun hc => ?_
    simp [isNumD, hc.1, hc.2] at h
  · rfl
theorem behind_go {c : Circ} {wd : Wd} {i : Nat} {r : List PyData} (h : r.length + 2 = wd.len) : behind c (.tuple (.str wd.name :: .int i :: r)) = doStep c wd i (r.headD .none) := by
  show (match wdOf wd.name with | some wd' => if r.length + 2 = wd'.len ∧ (0 : Int) ≤ i then doStep c wd' (i : Int).toNat (r.headD .none) else none | none => none) = _
  rw [wd_name]
  exact if_pos ⟨h, by omega⟩
theorem et_noS {σ : L2.St} {H : Hp} {i : Nat} {v : V} {x : PyData} {a : Addr} (hs : σ[i]? = some (some v)) (q : TD K H v x) (no : ∀ z, wdOf z = none → PySem.W.nsIn K a z = some none) (yes : ∀ wd : Wd, ∃ u, PySem.W.nsIn K a wd.name = some (some u)) :
    ET (tOr (tNot (tB (tCB (rIsi K) (tCons (tVar i) (tCons (tC (V.ty "tuple")) tNil))))) (tOr (tTest (tOp (rI0 fun i j => V.bl (decide (i < j))) (tCB (rLen1 K) (tCons (tVar i) tNil)) (tC (V.int 2))))
      (tOr (tNot (tB (tCB (rIsi K) (tCons (tOp (rIxT K) (tVar i) (tC (V.int 0))) (tCons (tC (V.ty "str")) tNil))))) (tTest (tOp (rKNot K a) (tOp (rIxT K) (tVar i) (tC (V.int 0))) (tC (V.ref a))))))) σ H (noS x) := by
  have hv := ed_var (K := K) hs q
  cases x with
  | tuple xs =>
    refine et_orF (et_not (et_B (K := K) (ed_isTup hv))) rfl ?_
    match xs, q, hv with
    | [], _, hv => exact et_orT (et_T (K := K) (ed_B0 (g := fun i j => decide (i < j)) (j := 2) (ed_lenT hv) ed_int)) rfl
    | [a0], _, hv =>
      rw [show noS (.tuple [a0]) = true from by cases a0 <;> rfl]
      exact et_orT (et_T (K := K) (ed_B0 (g := fun i j => decide (i < j)) (j := 2) (ed_lenT hv) ed_int)) rfl
    | d0 :: d1 :: r, _, hv =>
      refine et_orF (et_T (K := K) (ed_B0 (g := fun i j => decide (i < j)) (j := 2) (ed_lenT hv) ed_int)) (decide_eq_false (by simp only [List.length_cons]; omega)) ?_
      have h0 : ED K (tOp (rIxT K) (tVar i) (tC (V.int 0))) σ H d0 := ed_ix hv ed_int (atI_of (by decide) rfl)
      cases d0 with
      | str z =>
        refine et_orF (et_not (et_B (K := K) (ed_isStr h0))) rfl ?_
        cases hz : wdOf z with
        | none => exact et_is (et_T (K := K) (ed_kni h0 (no z hz))) (by show _ = (wdOf z).isNone; rw [hz]; rfl)
        | some wd =>
          obtain ⟨u, hu⟩ := yes wd
          rw [← wd_some hz] at hu
          exact et_is (et_T (K := K) (ed_kni h0 hu)) (by show _ = (wdOf z).isNone; rw [hz]; rfl)
      | _ => exact et_orT (et_not (et_B (K := K) (ed_isStr h0))) rfl
  | dict x => cases q
  | _ => exact et_orT (et_not (et_B (K := K) (ed_isTup hv))) rfl
def StD (x : PyData) : Prop := ∀ a b y, x = .tuple [a, b, y] → StS y
def R_step (ds : List PyData) (d : PyData) : Prop := ∃ (W : Int) (c : Circ) (x : PyData), W ≤ 6 ∧ CS W c ∧ c.2.length ≤ 1000 ∧ StD x ∧ ds = [encCi c, x] ∧ d = encO encCi (behind c x)
abbrev Napply_step : List Str := ["circuit", "step", "at", "end", "new"]
theorem scapply_step : FnScope Napply_step ["circuit", "step"] (defScope sapply_step) := ⟨rfl, rfl, rfl, by decide +kernel, rfl, by decide +kernel, by decide +kernel⟩
theorem ok_apply_step (T : Fx mg) (TL : Tb w K mg "LENGTHS" Wd.len) (TU : Tb w K mg "USES" Wd.use) (D : Df K mg "apply_step" sapply_step) (c_is_number : Cl P w K mg base 1 "is_number" (spF K 1 R_isnum)) (c_new_gates : Cl P w K mg base 3 "new_gates" (spF K 3 R_newg)) : Cl P w K mg base 4 "apply_step" (spF K 2 R_step) := by
  refine cl_F D scapply_step rfl (fun _ _ _ _ _ _ us hl => match us, hl with | [_, _], _ => rfl) ?_
  intro f cdv A outer s H vs Q E ds d hr ht hR q
  obtain ⟨W, c, x, hW, hc, hl, hx, rfl, rfl⟩ := hR
  obtain ⟨v1, v2, rfl, h1, h2⟩ := ht.two
  obtain ⟨a_LENGTHS, esL, nL, g_LENGTHS, kd_LENGTHS, noL, yesL⟩ := TL.ex
  obtain ⟨a_USES, esU, nU, g_USES, kd_USES, noU, yesU⟩ := TU.ex
  refine ⟨_, (pss_cons (ps_if (PW.pt (pw_or (pt_not (pt_val (pe_callB (kc_isi (K := K)) (by rfl) T.isinstance bt_isinstance (pa_cons (pv 1) (pa_cons (pe_bltn (v := .ty "tuple") (by rfl) T.tuple bt_tuple rfl) pa_nil))))) (pw_or (pt_cmpR op_lt (pe_callB (kc_len (K := K)) (by rfl) T.len bt_len (pa_cons (pv 1) pa_nil)) pe_int (nomark _)) (pw_or (pt_not (pt_val (pe_callB (kc_isi (K := K)) (by rfl) T.isinstance bt_isinstance (pa_cons (pe_ix (kx_tup (K := K)) (pv 1) pe_int (fun _ _ => rfl)) (pa_cons (pe_bltn (v := .ty "str") (by rfl) T.str bt_str rfl) pa_nil))))) (pw_or1 (pt_cmpR (ko_niK (K := K) kd_LENGTHS) (pe_ix (kx_tup (K := K)) (pv 1) pe_int (fun _ _ => rfl)) (pe_glob (v := .ref a_LENGTHS) (by rfl) g_LENGTHS rfl) (by rfl))))))) (pss_one (ps_ret pe_non)) pss_nil)
      (pss_cons (ps_if (PW.pt (pw_or (pt_cmpR op_ne (pe_callB (kc_len (K := K)) (by rfl) T.len bt_len (pa_cons (pv 1) pa_nil)) (pe_ix (kx_kd (K := K) (w := w)) (pe_glob (v := .ref a_LENGTHS) (by rfl) g_LENGTHS rfl) (pe_ix (kx_tup (K := K)) (pv 1) pe_int (fun _ _ => rfl)) (fun _ _ => rfl)) (nomark _)) (pw_or1 (pt_not (pt_val (pe_cl c_is_number hr (by omega) (by rfl) (pa_cons (pe_ix (kx_tup (K := K)) (pv 1) pe_int (fun _ _ => rfl)) pa_nil))))))) (pss_one (ps_ret pe_non)) pss_nil)
      (pss_cons (ps_set (i := 2) scapply_step.nd rfl (.inl rfl) (pe_ix (kx_tup (K := K)) (pv 1) pe_int (fun _ _ => rfl)))
      (pss_cons (ps_set (i := 3) scapply_step.nd rfl (.inl rfl) (pe_op op_add (pv 2) (pe_ix (kx_kd (K := K) (w := w)) (pe_glob (v := .ref a_USES) (by rfl) g_USES rfl) (pe_ix (kx_tup (K := K)) (pv 1) pe_int (fun _ _ => rfl)) (fun _ _ => rfl))))
      (pss_cons (ps_if (pt_cmpR op_gt (pv 3) (pe_callB (kc_len (K := K)) (by rfl) T.len bt_len (pa_cons (pe_ix (kx_tup (K := K)) (pv 0) pe_int (fun _ _ => rfl)) pa_nil)) (nomark _)) (pss_one (ps_ret pe_non)) pss_nil)
      (pss_cons (ps_set (i := 4) scapply_step.nd rfl (.inl rfl) (pe_cl c_new_gates hr (by omega) (by rfl) (pa_cons (pv 0) (pa_cons (pv 1) (pa_cons (pe_slice (ks_tup (K := K)) (pe_ix (kx_tup (K := K)) (pv 0) pe_int (fun _ _ => rfl)) (po_some (pv 2)) (po_some (pv 3))) pa_nil)))))
      (pss_cons (ps_if (pt_cmp (pc_isN (pv 4))) (pss_one (ps_ret pe_non)) pss_nil)
      (pss_one (ps_ret (pe_tupP (pa_cons (pe_ix (kx_tup (K := K)) (pv 0) pe_int (fun _ _ => rfl)) (pa_cons (pe_op (ko_cat (K := K)) (pe_op (ko_cat (K := K)) (pe_slice (ks_tup (K := K)) (pe_ix (kx_tup (K := K)) (pv 0) pe_int (fun _ _ => rfl)) po_none (po_some (pv 2))) (pv 4)) (pe_slice (ks_tup (K := K)) (pe_ix (kx_tup (K := K)) (pv 0) pe_int (fun _ _ => rfl)) (po_some (pv 3)) po_none)) pa_nil)))))))))))), ?_⟩
  show KP _ [some v1, some v2, none, none, none] H
  have i1 : TD K H v1 (.tuple [.int c.1, encGs c.2]) := h1
  have cw := hc.w
  refine k_if1 (b := noS x) (et_noS rfl h2 noL fun wd => ⟨_, (yesL wd).choose_spec.1⟩) (fun hb => ?_) (fun hb => ?_)
  · refine k_ret (K := K) (d := .none) ed_non fun v H1 s1 q1 => q v H1 s1 ?_
    rw [noS_bad hb]
    exact q1
  obtain ⟨wd, y, r, rfl⟩ := noS_good hb
  obtain ⟨uL, nsL, rvL⟩ := yesL wd
  obtain ⟨uU, nsU, rvU⟩ := yesU wd
  have h0 : ∀ {σ : L2.St} {H'}, Same H H' → σ[1]? = some (some v2) → ED K (tOp (rIxT K) (tVar 1) (tC (V.int 0))) σ H' (.str wd.name) := fun e hs => ed_ix (ed_var hs (h2.up e)) ed_int (atI_of (by decide) rfl)
  have hy : ∀ {σ : L2.St} {H'}, Same H H' → σ[1]? = some (some v2) → ED K (tOp (rIxT K) (tVar 1) (tC (V.int 1))) σ H' y := fun e hs => ed_ix (ed_var hs (h2.up e)) ed_int (atI_of (by decide) rfl)
  dsimp only
  refine k_if1 (b := !decide (r.length + 2 = wd.len) || !isNumD y) ?_ (fun hb => ?_) (fun hb => ?_)
  · refine et_is (et_or (et_T (K := K) (ed_neI (ed_lenT (ed_var rfl h2)) (ed_kix (w := w) kd_LENGTHS (h0 (Same.refl _) rfl) nsL rvL))) fun _ => et_not (et_B (K := K) (ed_call (ds := [y]) (ea_cons (hy (Same.refl _) rfl) ea_nil) ⟨y, rfl, rfl⟩))) ?_
    congr 2
    exact decide_eq_decide.mpr (by simp only [List.length_cons]; omega)
  · refine k_ret (K := K) (d := .none) ed_non fun v H1 s1 q1 => q v H1 s1 ?_
    rw [behind_bad hb]
    exact q1
  have hb' : r.length + 2 = wd.len ∧ isNumD y = true := by simpa using hb
  obtain ⟨i0, hyi, hi0⟩ := isNum_iff hb'.2
  obtain ⟨i, rfl⟩ := Int.eq_ofNat_of_zero_le hi0
  subst hyi
  rw [behind_go hb'.1] at q
  dsimp only
  refine k_set (K := K) (d := .int i) (hy (Same.refl _) rfl) fun u2 H2 e2 q2 => ?_
  cases q2.int_eq
  dsimp only
  refine k_set (K := K) (d := .int (i + wd.use : Int)) (ed_I0 (ed_var rfl (.int _)) (ed_kix (w := w) kd_USES (h0 e2 rfl) nsU rvU)) fun u3 H3 e3 q3 => ?_
  cases q3.int_eq
  replace e3 := e2.trans e3
  have i1 := i1.up e3
  have h2' := h2.up e3
  dsimp only
  refine k_if1 (b := decide (c.2.length < i + wd.use)) ?_ (fun hb2 => ?_) (fun hb2 => ?_)
  · refine et_is (et_T (K := K) (ed_B0 (ed_var rfl (.int _)) (ed_lenT (ds := c.2.map encG) (ed_ix (ed_var rfl i1) ed_int rfl)))) ?_
    exact decide_eq_decide.mpr (by rw [List.length_map]; omega)
  · refine k_ret (K := K) (d := .none) ed_non fun v H1 s1 q1 => q v H1 (e3.trans s1) ?_
    have h4 := of_decide_eq_true hb2
    rw [show doStep c wd i (r.headD .none) = none from if_neg (by omega)]
    exact q1
  have h4 := of_decide_eq_false hb2
  have hdo : doStep c wd i (r.headD .none) = (newOf c.1 (r.headD .none) (gAt c.2 i) (gAt c.2 (i + 1)) wd).map fun n => (c.1, c.2.take i ++ n ++ c.2.drop (i + wd.use)) := if_pos (by omega)
  have hss : StS (r.headD .none) := by
    match r, hx with
    | [], hx => exact fun g hg => by cases hg
    | [y], hx => exact hx _ _ y rfl
    | y :: z :: r', hx =>
      exfalso
      have := hb'.1
      have l3 : wd.len ≤ 3 := by cases wd <;> decide
      simp only [List.length_cons] at this
      omega
  have gs : ∀ {σ : L2.St} {H'}, Same H3 H' → σ[0]? = some (some v1) → ED K (tOp (rIxT K) (tVar 0) (tC (V.int 1))) σ H' (.tuple (c.2.map encG)) := fun e hs => ed_ix (ed_var hs (i1.up e)) ed_int rfl
  dsimp only
  refine k_set (K := K) (d := encO encGs (newOf c.1 (r.headD .none) (gAt c.2 i) (gAt c.2 (i + 1)) wd)) (ed_call (ds := [encCi c, .tuple (.str wd.name :: .int i :: r), encGs (hereOf c i wd)]) (ea_cons (ed_var rfl i1) (ea_cons (ed_var rfl h2') (ea_cons ?_ ea_nil))) ⟨W, c, wd, i, r, hW, hc, hb'.1, by omega, hss, rfl, rfl⟩) fun u4 H4 e4 q4 => ?_
  · refine ed_is (ed_sl (gs (Same.refl _) rfl) (ep_some (K := K) (ed_var rfl (.int _))) (ep_some (K := K) (ed_var rfl (.int _)))) ?_
    have := cut_mid c.2 i (i + wd.use) (by omega) (by omega)
    rw [Int.natCast_add] at this
    rw [this, Nat.add_sub_cancel_left]
    rfl
  cases hnew : newOf c.1 (r.headD .none) (gAt c.2 i) (gAt c.2 (i + 1)) wd with
  | none =>
    rw [hnew] at q4 hdo
    dsimp only
    refine k_if1 (b := true) (et_B (K := K) (ed_isN (d := .none) (ed_var rfl q4))) (fun _ => ?_) (fun h => by cases h)
    refine k_ret (K := K) (d := .none) ed_non fun v H1 s1 q1 => q v H1 (e3.trans (e4.trans s1)) ?_
    rw [hdo]
    exact q1
  | some n =>
    rw [hnew] at q4 hdo
    have q4' : TD K H4 u4 (.tuple (n.map encG)) := q4
    dsimp only
    refine k_if1 (b := false) (et_B (K := K) (ed_isN (d := encGs n) (ed_var rfl q4))) (fun h => by cases h) (fun _ => ?_)
    have hn3 : n.length ≤ 3 := newOf_len hnew
    dsimp only
    refine k_ret (K := K) (d := encCi (c.1, c.2.take i ++ n ++ c.2.drop (i + wd.use))) ?_ fun v H1 s1 q1 => q v H1 (e3.trans (e4.trans s1)) ?_
    · refine ed_tup (ea_cons (d := .int c.1) (ed_ix (ed_var rfl (i1.up e4)) ed_int rfl) (ea_cons (d := encGs (c.2.take i ++ n ++ c.2.drop (i + wd.use))) (ed_is (ed_cat (ed_cat (ed_sl (gs e4 rfl) ep_none (ep_some (K := K) (ed_var rfl (.int _)))) (ed_var rfl q4') ?_) (ed_sl (gs e4 rfl) (ep_some (K := K) (ed_var rfl (.int _))) ep_none) ?_) ?_) ea_nil)) (le_line (by simp))
      · rw [cut_lo _ _ (by omega)]
        exact le_line (by simp only [List.length_map, List.length_take]; omega)
      · have := cut_hi c.2 (i + wd.use) (by omega)
        rw [Int.natCast_add] at this
        rw [this, cut_lo _ _ (by omega)]
        exact le_line (by simp only [List.length_append, List.length_map, List.length_take, List.length_drop]; omega)
      · have := cut_hi c.2 (i + wd.use) (by omega)
        rw [Int.natCast_add] at this
        rw [this, cut_lo _ _ (by omega)]
        show _ = PyData.tuple ((c.2.take i ++ n ++ c.2.drop (i + wd.use)).map encG)
        rw [List.map_append, List.map_append]
    · rw [hdo]
      exact q1
end
end Bk

set_option Elab.async false
set_option linter.all false
set_option maxRecDepth 100000
set_option maxHeartbeats 4000000
namespace Bk
open PySem PySem.Spec PyProof.Rows L2

local macro_rules | `(tactic| walk_at "ed") => `(tactic| first
  | assumption
  | exact ed_int | exact ed_bl | exact ed_non | exact ed_str | exact ea_nil | exact ep_none | exact et_yes
  | (apply ed_var rfl; assumption)
  | (apply ea_cons; walk_at "ed"; walk_at "ed")
  | (apply ed_ix; walk_at "ed"; walk_at "ed"; rfl)
  | (apply et_B; walk_at "ed")
  | (apply et_T; walk_at "ed")
  | (apply ed_tup; walk_at "ed"; (apply le_line; simp only [List.length_cons, List.length_nil]; omega))
  | (apply ed_eqI; walk_at "ed"; walk_at "ed")
  | (apply ed_neI; walk_at "ed"; walk_at "ed")
  | (apply ed_eqS; walk_at "ed"; walk_at "ed")
  | (apply ed_neS; walk_at "ed"; walk_at "ed")
  | (apply ed_I0; walk_at "ed"; walk_at "ed")
  | (apply ed_B0; walk_at "ed"; walk_at "ed")
  | (apply ed_neg; walk_at "ed")
  | (apply ed_isN; walk_at "ed")
  | (apply ed_notN; walk_at "ed")
  | (apply ed_lenT; walk_at "ed")
  | (apply ep_some; walk_at "ed")
  | (apply ed_sl; walk_at "ed"; walk_at "ed"; walk_at "ed")
  | (apply el_lst; walk_at "ed"; (apply le_line; simp only [List.length_cons, List.length_nil]; omega))
  | (apply ed_tupL; walk_at "ed")
  | (apply et_not; walk_at "ed")
  | (apply ed_notV; walk_at "ed")
  | (apply ed_isInt; walk_at "ed")
  | (apply ed_isBool; walk_at "ed")
  | (apply ed_isTup; walk_at "ed")
  | (apply ed_isStr; walk_at "ed")
  | (apply ed_andF; walk_at "ed"; rfl)
  | (apply ed_andT; walk_at "ed"; rfl; walk_at "ed")
  | (apply ed_orT; walk_at "ed"; rfl)
  | (apply ed_orF; walk_at "ed"; rfl; walk_at "ed")
  | (apply et_andF; walk_at "ed"; rfl)
  | (apply et_andT; walk_at "ed"; rfl; walk_at "ed")
  | (apply et_orT; walk_at "ed"; rfl)
  | (apply et_orF; walk_at "ed"; rfl; walk_at "ed")
  | (apply ed_andV; walk_at "ed"; (intro _; walk_at "ed"))
  | (apply ed_orV; walk_at "ed"; (intro _; walk_at "ed"))
  | (apply et_and; walk_at "ed"; (intro _; walk_at "ed"))
  | (apply et_or; walk_at "ed"; (intro _; walk_at "ed")))

section
variable {P : Program} {w : World} {K : PySem.W.Frag} {mg : Str → Option Value} {base : Heap}
def applyD (c : Circ) : PyData → Option Circ × Int
  | .tuple xs => applyF 0 c xs
  | _ => (none, 0)
def encA (r : Option Circ × Int) : PyData := .tuple [encO encCi r.1, .int r.2]
def R_steps (ds : List PyData) (d : PyData) : Prop := ∃ (W : Int) (c : Circ) (x : PyData), W ≤ 6 ∧ CS W c ∧ (∀ xs, x = .tuple xs → c.2.length + 2 * xs.length ≤ 1000 ∧ ∀ y ∈ xs, StD y) ∧ ds = [encCi c, x] ∧ d = encA (applyD c x)
abbrev Napply_steps : List Str := ["circuit", "steps", "k"]
theorem scapply_steps : FnScope Napply_steps ["circuit", "steps"] (defScope sapply_steps) := ⟨rfl, rfl, rfl, by decide +kernel, rfl, by decide +kernel, by decide +kernel⟩
theorem ok_apply_steps (T : Fx mg) (D : Df K mg "apply_steps" sapply_steps) (c_apply_step : Cl P w K mg base 4 "apply_step" (spF K 2 R_step)) : Cl P w K mg base 5 "apply_steps" (spF K 2 R_steps) := by
  refine cl_F D scapply_steps rfl (fun _ _ _ _ _ _ us hl => match us, hl with | [_, _], _ => rfl) ?_
  intro f cdv A outer s H vs Q E ds d hr ht hR q
  obtain ⟨W, c, x, hW, hc, hx, rfl, rfl⟩ := hR
  obtain ⟨v1, v2, rfl, h1, h2⟩ := ht.two
  refine ⟨_, (pss_cons (ps_if (pt_not (pt_val (pe_callB (kc_isi (K := K)) (by rfl) T.isinstance bt_isinstance (pa_cons (pv 1) (pa_cons (pe_bltn (v := .ty "tuple") (by rfl) T.tuple bt_tuple rfl) pa_nil))))) (pss_one (ps_ret (pe_tupP (pa_cons pe_non (pa_cons pe_int pa_nil))))) pss_nil)
      (pss_cons (ps_for PassesOwn.never rfl (pi_range1 (by rfl) T.range (pa_cons (pe_callB (kc_len (K := K)) (by rfl) T.len bt_len (pa_cons (pv 1) pa_nil)) pa_nil)) (pg_name (i := 2) scapply_steps.nd rfl (.inl rfl)) (pss_cons (ps_set (i := 0) scapply_steps.nd rfl (.inl rfl) (pe_cl c_apply_step hr (by omega) (by rfl) (pa_cons (pv 0) (pa_cons (pe_ix (kx_tup (K := K)) (pv 1) (pv 2) (fun _ _ => rfl)) pa_nil))))
        (pss_one (ps_if (pt_cmp (pc_isN (pv 0))) (pss_one (ps_ret (pe_tupP (pa_cons pe_non (pa_cons (pv 2) pa_nil))))) pss_nil))))
      (pss_one (ps_ret (pe_tupP (pa_cons (pv 0) (pa_cons (pe_un un_neg pe_int) pa_nil))))))), ?_⟩
  show KP _ [some v1, some v2, none] H
  cases hb : isTupD x with
  | false =>
    refine k_if1 (b := true) (et_is (et_not (et_B (K := K) (ed_isTup (ed_var rfl h2)))) (by rw [hb]; rfl)) (fun _ => ?_) (fun h => by cases h)
    refine k_ret (K := K) (d := encA (none, 0)) (ed_tup (ea_cons ed_non (ea_cons ed_int ea_nil)) (le_line (by simp))) fun v H1 s1 q1 => q v H1 s1 ?_
    cases x with
    | tuple xs => cases hb
    | _ => exact q1
  | true =>
  obtain ⟨xs, rfl⟩ := isTup_iff hb
  obtain ⟨hl, hst⟩ := hx xs rfl
  refine k_if1 (b := false) (et_is (et_not (et_B (K := K) (ed_isTup (ed_var rfl h2)))) rfl) (fun h => by cases h) (fun _ => ?_)
  dsimp only
  refine k_seq (k_for (wd_rng (n := xs.length) (ed_lenT (ed_var rfl h2)) (by omega)) fun Hs s1 => ?_)
  refine ⟨fun i σ' H' => ∃ cv ci y, σ' = [some cv, some v2, y] ∧ Same Hs H' ∧ TD K H' cv (encCi ci) ∧ CS W ci ∧ ci.2.length ≤ c.2.length + 2 * i ∧ applyF 0 c xs = applyF i ci (xs.drop i), ⟨v1, c, none, rfl, Same.refl _, h1.up s1, hc, by omega, rfl⟩, fun i σ' H' h => trivial, fun i d u σ' H' hd q2 h => ?_, fun σ' H' h => ?_⟩
  · have hi : i < xs.length := by
      obtain ⟨h, _⟩ := List.getElem?_eq_some_iff.mp hd
      rw [rngD_len] at h
      exact h
    rw [rngD_at hi] at hd
    have hd' := (Option.some.inj hd).symm
    subst hd'
    have hu := q2.int_eq
    subst hu
    obtain ⟨cv, ci, y, rfl, s2, tc, hci, hli, hap⟩ := h
    refine k_name ?_
    have s3 := s1.trans s2
    have h2' := h2.up s3
    have hx := List.getElem?_eq_getElem hi
    have hdr : xs.drop i = xs[i] :: xs.drop (i + 1) := List.drop_eq_getElem_cons hi
    rw [hdr, applyF_cons] at hap
    refine k_set (K := K) (d := encO encCi (behind ci xs[i])) (ed_call (ds := [encCi ci, xs[i]]) (ea_cons (ed_var rfl tc) (ea_cons (ed_ix (ed_var rfl h2') (ed_var rfl (.int _)) (atI_of (by omega) (by rw [Int.toNat_natCast]; exact hx))) ea_nil)) ⟨W, ci, xs[i], hW, hci, by omega, hst _ (List.getElem_mem hi), rfl, rfl⟩) fun v4 H4 s4 q4 => ?_
    cases hbe : behind ci xs[i] with
    | none =>
      rw [hbe] at q4 hap
      dsimp only
      refine k_if1 (b := true) (et_B (K := K) (ed_isN (d := .none) (ed_var rfl q4))) (fun _ => ?_) (fun h => by cases h)
      refine k_ret (K := K) (d := encA (none, (i : Int))) (ed_tup (ea_cons ed_non (ea_cons (ed_var rfl (.int _)) ea_nil)) (le_line (by simp))) fun v H1 s5 q1 => q v H1 (s3.trans (s4.trans s5)) ?_
      show TD K H1 v (encA (applyF 0 c xs))
      rw [hap]
      exact q1
    | some c' =>
      rw [hbe] at q4 hap
      obtain ⟨a1, a2, _⟩ := behind_ok hci hbe
      dsimp only
      refine k_if1 (b := false) (et_B (K := K) (ed_isN (d := encCi c') (ed_var rfl q4))) (fun h => by cases h) (fun _ => ?_)
      exact k_mid fun H5 s5 => ⟨v4, c', _, rfl, s2.trans (s4.trans s5), q4.up s5, a1, by omega, hap⟩
  · obtain ⟨cv, ci, y, rfl, s2, tc, hci, hli, hap⟩ := h
    rw [rngD_len, List.drop_length] at hap
    dsimp only
    apply k_at
    refine k_ret (K := K) (d := encA (some ci, -1)) (ed_tup (ea_cons (ed_var rfl tc) (ea_cons (ed_neg ed_int) ea_nil)) (le_line (by simp))) fun v H1 s5 q1 => q v H1 (s1.trans (s2.trans s5)) ?_
    show TD K H1 v (encA (applyF 0 c xs))
    rw [hap]
    exact q1
end
end Bk

set_option Elab.async false
set_option linter.all false
set_option maxRecDepth 100000
set_option maxHeartbeats 4000000
/-! Carrying a gate to another one. -/
namespace Bk
open PySem PySem.Spec PyProof.Rows L2
def sd (s : Wd × Nat) : PyData := .tuple [.str s.1.name, .int s.2]
theorem behind_sd {c : Circ} {wd : Wd} {k : Nat} (h : wd.len = 2) : behind c (sd (wd, k)) = doStep c wd k .none := behind_go (r := []) (by rw [h]; rfl)
theorem std_sd (s : Wd × Nat) : StD (sd s) := fun a b y h => by
  injection h with h
  injection h with _ h
  injection h with _ h
  cases h
/-- the places passed, from above -/
def posD (a : Nat) : Nat → List Nat
  | 0 => []
  | n + 1 => (a + n) :: posD a n
theorem posD_len (a : Nat) : ∀ n, (posD a n).length = n
  | 0 => rfl
  | n + 1 => congrArg (· + 1) (posD_len a n)
theorem posD_map (a : Nat) : ∀ n, (posD a n).map (fun k : Nat => PyData.int (k : Int)) = dwnD ((a : Int) + n - 1) n
  | 0 => rfl
  | n + 1 => by
    unfold dwnD
    rw [List.range_succ_eq_map, List.map_cons, List.map_map]
    show PyData.int ((a + n : Nat) : Int) :: (posD a n).map _ = _
    rw [posD_map a n]
    unfold dwnD
    refine congr (congrArg List.cons ?_) (List.map_congr_left fun t _ => ?_)
    · congr 1
      omega
    · show PyData.int _ = PyData.int _
      congr 1
      simp only [Nat.succ_eq_add_one]
      omega
def chain (a n : Nat) : List (Wd × Nat) := (posD a n).map fun k => (Wd.exchange, k)
theorem gAt_app (A B : List Gate) (x : Gate) : gAt (A ++ x :: B) A.length = x := by
  unfold gAt
  rw [List.getD_eq_getElem?_getD, List.getElem?_append_right (Nat.le_refl _), Nat.sub_self]
  rfl
theorem gAt_app1 (A B : List Gate) (x y : Gate) : gAt (A ++ x :: y :: B) (A.length + 1) = y := by
  have := gAt_app (A ++ [x]) B y
  rw [List.append_assoc, List.length_append] at this
  exact this
theorem do2 {W : Int} {A B n : List Gate} {x y : Gate} {wd : Wd} {d : PyData} (hu : wd.use = 2) (h : newOf W d x y wd = some n) : doStep (W, A ++ x :: y :: B) wd A.length d = some (W, A ++ n ++ B) := by
  unfold doStep
  rw [if_pos (by rw [hu]; simp only [List.length_append, List.length_cons]; omega)]
  show (newOf W d (gAt (A ++ x :: y :: B) A.length) (gAt (A ++ x :: y :: B) (A.length + 1)) wd).map _ = _
  rw [gAt_app, gAt_app1, h, hu]
  show some (W, (A ++ x :: y :: B).take A.length ++ n ++ (A ++ x :: y :: B).drop (A.length + 2)) = _
  rw [List.take_left, List.drop_append, List.drop_eq_nil_of_le (by omega), Nat.add_sub_cancel_left]
  rfl
theorem chain_ok (W : Int) (A : List Gate) (y : Gate) (a : Nat) (ha : A.length = a) : ∀ (n : Nat) (M B : List Gate) (k : Nat), M.length = n → (∀ m ∈ M, exch m y = true) →
    applyF k (W, A ++ M ++ y :: B) ((chain a n).map sd) = (some (W, A ++ y :: (M ++ B)), -1)
  | 0, M, B, k, hM, _ => by
    rw [List.length_eq_zero_iff.mp hM, List.append_nil]
    rfl
  | n + 1, M, B, k, hM, hx => by
    have hne : M ≠ [] := fun e => by rw [e] at hM; cases hM
    have hM' : M = M.dropLast ++ [M.getLast hne] := (List.dropLast_concat_getLast hne).symm
    generalize M.getLast hne = z at hM'
    generalize M.dropLast = M1 at hM'
    subst hM'
    have hl : M1.length = n := by
      rw [List.length_append] at hM
      exact Nat.succ.inj hM
    have hz : exch z y = true := hx z (List.mem_append_right _ List.mem_cons_self)
    show applyF k (W, A ++ (M1 ++ [z]) ++ y :: B) (sd (.exchange, a + n) :: (chain a n).map sd) = _
    rw [applyF_cons, behind_sd rfl]
    have e1 : A ++ (M1 ++ [z]) ++ y :: B = (A ++ M1) ++ z :: y :: B := by simp
    have e2 : a + n = (A ++ M1).length := by rw [List.length_append, ha, hl]
    rw [e1, e2, do2 (n := [y, z]) rfl (by simp only [newOf]; rw [if_pos hz])]
    show applyF (k + 1) (W, A ++ M1 ++ [y, z] ++ B) _ = _
    have e3 : A ++ M1 ++ [y, z] ++ B = A ++ M1 ++ y :: (z :: B) := by simp
    rw [e3, chain_ok W A y a ha n M1 (z :: B) (k + 1) hl fun m hm => hx m (List.mem_append_left _ hm)]
    simp
/-- the steps of one gathering -/
def gather (wd : Wd) (i j : Nat) : List (Wd × Nat) := chain (i + 1) (j - 1 - i) ++ [(wd, i)]
def reachB (gs : List Gate) (i j : Nat) : Bool := (posD (i + 1) (j - 1 - i)).all fun k => exch (gAt gs k) (gAt gs j)
theorem posD_mem {a k : Nat} : ∀ {n : Nat}, a ≤ k → k < a + n → k ∈ posD a n
  | 0, h1, h2 => by omega
  | n + 1, h1, h2 => by
    by_cases e : k = a + n
    · rw [e]; exact List.mem_cons_self
    · exact List.mem_cons_of_mem _ (posD_mem h1 (by omega))
theorem gather_ok {W : Int} {gs n : List Gate} {i j : Nat} {wd : Wd} (hij : i < j) (hj : j < gs.length) (hr : reachB gs i j = true) (hu : wd.use = 2) (hl : wd.len = 2) (hn : newOf W .none (gAt gs i) (gAt gs j) wd = some n) (k : Nat) :
    ∃ c' : Circ, applyF k (W, gs) ((gather wd i j).map sd) = (some c', -1) ∧ c'.2.length + 2 = gs.length + n.length := by
  have e1 : gs = gs.take (i + 1) ++ (gs.drop (i + 1)).take (j - 1 - i) ++ gAt gs j :: gs.drop (j + 1) := by
    have h1 := List.take_append_drop (i + 1) gs
    have h2 := List.take_append_drop (j - 1 - i) (gs.drop (i + 1))
    have h3 : (gs.drop (i + 1)).drop (j - 1 - i) = gAt gs j :: gs.drop (j + 1) := by
      rw [List.drop_drop, show i + 1 + (j - 1 - i) = j by omega]
      have := getD_at hj
      obtain ⟨h, e⟩ := List.getElem?_eq_some_iff.mp this
      rw [← e]
      exact List.drop_eq_getElem_cons h
    rw [h3] at h2
    rw [List.append_assoc, h2, h1]
  have hlA : (gs.take (i + 1)).length = i + 1 := by rw [List.length_take]; omega
  have hlM : ((gs.drop (i + 1)).take (j - 1 - i)).length = j - 1 - i := by rw [List.length_take, List.length_drop]; omega
  have hM : ∀ m ∈ (gs.drop (i + 1)).take (j - 1 - i), exch m (gAt gs j) = true := fun m hm => by
    obtain ⟨t, ht, rfl⟩ := List.mem_iff_getElem.mp hm
    rw [hlM] at ht
    have := List.all_eq_true.mp hr (i + 1 + t) (posD_mem (by omega) (by omega))
    rw [List.getElem_take, List.getElem_drop]
    have h2 := getD_at (gs := gs) (i := i + 1 + t) (by omega)
    obtain ⟨h, e⟩ := List.getElem?_eq_some_iff.mp h2
    rw [e]
    exact this
  have h1 := chain_ok W (gs.take (i + 1)) (gAt gs j) (i + 1) hlA (j - 1 - i) _ (gs.drop (j + 1)) k hlM hM
  rw [← e1] at h1
  have e2 : gs.take (i + 1) ++ gAt gs j :: ((gs.drop (i + 1)).take (j - 1 - i) ++ gs.drop (j + 1)) = gs.take i ++ gAt gs i :: gAt gs j :: ((gs.drop (i + 1)).take (j - 1 - i) ++ gs.drop (j + 1)) := by
    rw [List.take_add_one, getD_at (show i < gs.length by omega)]
    simp
  rw [e2] at h1
  have hli : (gs.take i).length = i := by rw [List.length_take]; omega
  refine ⟨(W, gs.take i ++ n ++ ((gs.drop (i + 1)).take (j - 1 - i) ++ gs.drop (j + 1))), ?_, ?_⟩
  · unfold gather
    rw [List.map_append, applyF_app _ h1]
    show applyF _ _ [sd (wd, i)] = _
    rw [applyF_cons, behind_sd hl]
    have h2 := do2 (W := W) (A := gs.take i) (B := (gs.drop (i + 1)).take (j - 1 - i) ++ gs.drop (j + 1)) hu hn
    rw [hli] at h2
    rw [h2]
    rfl
  · have := congrArg List.length e1
    simp only [List.length_append, List.length_cons, hlA, hlM] at this
    simp only [List.length_append, hli, hlM]
    omega
/-- may the two be gathered: alike, or to be merged -/
def fitB (m : Bool) (f s : Gate) : Bool := if m then decide (f = s) else (merged f s).isSome
def fitW (m : Bool) : Wd := if m then .cancel else .merge
theorem gather_fit {m : Bool} {W : Int} {gs : List Gate} {i j : Nat} (hij : i < j) (hj : j < gs.length) (hr : reachB gs i j = true) (hf : fitB m (gAt gs i) (gAt gs j) = true) (k : Nat) :
    ∃ c' : Circ, applyF k (W, gs) ((gather (fitW m) i j).map sd) = (some c', -1) ∧ c'.2.length < gs.length := by
  cases m with
  | true =>
    have hf' : gAt gs i = gAt gs j := by simpa [fitB] using hf
    obtain ⟨c', h1, h2⟩ := gather_ok (W := W) (n := []) (wd := .cancel) hij hj hr rfl rfl (by simp only [newOf]; rw [if_pos hf']) k
    exact ⟨c', h1, by simp only [List.length_nil] at h2; omega⟩
  | false =>
    have hf' : (merged (gAt gs i) (gAt gs j)).isSome = true := hf
    obtain ⟨m, hm⟩ := Option.isSome_iff_exists.mp hf'
    obtain ⟨c', h1, h2⟩ := gather_ok (W := W) (n := [m]) (wd := .merge) hij hj hr rfl rfl (by simp only [newOf]; rw [hm]; rfl) k
    exact ⟨c', h1, by simp only [List.length_cons, List.length_nil] at h2; omega⟩
end Bk

set_option Elab.async false
set_option linter.all false
set_option maxRecDepth 100000
set_option maxHeartbeats 4000000
namespace Bk
open PySem PySem.Spec PyProof.Rows L2

local macro_rules | `(tactic| walk_at "ed") => `(tactic| first
  | assumption
  | exact ed_int | exact ed_bl | exact ed_non | exact ed_str | exact ea_nil | exact ep_none | exact et_yes
  | (apply ed_var rfl; assumption)
  | (apply ea_cons; walk_at "ed"; walk_at "ed")
  | (apply ed_ix; walk_at "ed"; walk_at "ed"; rfl)
  | (apply et_B; walk_at "ed")
  | (apply et_T; walk_at "ed")
  | (apply ed_tup; walk_at "ed"; (apply le_line; simp only [List.length_cons, List.length_nil]; omega))
  | (apply ed_eqI; walk_at "ed"; walk_at "ed")
  | (apply ed_neI; walk_at "ed"; walk_at "ed")
  | (apply ed_eqS; walk_at "ed"; walk_at "ed")
  | (apply ed_neS; walk_at "ed"; walk_at "ed")
  | (apply ed_I0; walk_at "ed"; walk_at "ed")
  | (apply ed_B0; walk_at "ed"; walk_at "ed")
  | (apply ed_neg; walk_at "ed")
  | (apply ed_isN; walk_at "ed")
  | (apply ed_notN; walk_at "ed")
  | (apply ed_lenT; walk_at "ed")
  | (apply ep_some; walk_at "ed")
  | (apply ed_sl; walk_at "ed"; walk_at "ed"; walk_at "ed")
  | (apply el_lst; walk_at "ed"; (apply le_line; simp only [List.length_cons, List.length_nil]; omega))
  | (apply ed_tupL; walk_at "ed")
  | (apply et_not; walk_at "ed")
  | (apply ed_notV; walk_at "ed")
  | (apply ed_isInt; walk_at "ed")
  | (apply ed_isBool; walk_at "ed")
  | (apply ed_isTup; walk_at "ed")
  | (apply ed_isStr; walk_at "ed")
  | (apply ed_andF; walk_at "ed"; rfl)
  | (apply ed_andT; walk_at "ed"; rfl; walk_at "ed")
  | (apply ed_orT; walk_at "ed"; rfl)
  | (apply ed_orF; walk_at "ed"; rfl; walk_at "ed")
  | (apply et_andF; walk_at "ed"; rfl)
  | (apply et_andT; walk_at "ed"; rfl; walk_at "ed")
  | (apply et_orT; walk_at "ed"; rfl)
  | (apply et_orF; walk_at "ed"; rfl; walk_at "ed")
  | (apply ed_andV; walk_at "ed"; (intro _; walk_at "ed"))
  | (apply ed_orV; walk_at "ed"; (intro _; walk_at "ed"))
  | (apply et_and; walk_at "ed"; (intro _; walk_at "ed"))
  | (apply et_or; walk_at "ed"; (intro _; walk_at "ed")))

section
variable {P : Program} {w : World} {K : PySem.W.Frag} {mg : Str → Option Value} {base : Heap}
theorem mem_posD {a k : Nat} : ∀ {n : Nat}, k ∈ posD a n → a ≤ k ∧ k < a + n
  | 0, h => absurd h List.not_mem_nil
  | n + 1, h => by
    rcases List.mem_cons.mp h with rfl | h
    · omega
    · have := mem_posD h
      omega
theorem reach_iff {gs : List Gate} {i j : Nat} : reachB gs i j = true ↔ ∀ k, i < k → k < j → exch (gAt gs k) (gAt gs j) = true := by
  unfold reachB
  rw [List.all_eq_true]
  exact ⟨fun h k h1 h2 => h k (posD_mem (by omega) (by omega)), fun h k hk => by
    have := mem_posD hk
    exact h k (by omega) (by omega)⟩
theorem at_gate {gs : List Gate} {k : Nat} (h : k < gs.length) : atI (gs.map encG) (k : Int) = some (encG (gAt gs k)) := by
  refine atI_of (by omega) ?_
  rw [Int.toNat_natCast, List.getElem?_map, getD_at h]
  rfl
def R_reach (ds : List PyData) (d : PyData) : Prop := ∃ (gs : List Gate) (i j : Nat), i < j ∧ j < gs.length ∧ gs.length ≤ 1000 ∧ (∀ g ∈ gs, GS g) ∧ ds = [encGs gs, .int i, .int j] ∧ d = .bool (reachB gs i j)
abbrev Ncan_reach : List Str := ["gates", "i", "j", "k"]
theorem sccan_reach : FnScope Ncan_reach ["gates", "i", "j"] (defScope scan_reach) := ⟨rfl, rfl, rfl, by decide +kernel, rfl, by decide +kernel, by decide +kernel⟩
theorem ok_can_reach (T : Fx mg) (D : Df K mg "can_reach" scan_reach) (c_exchanged : Cl P w K mg base 2 "exchanged" (spF K 2 R_exch)) : Cl P w K mg base 3 "can_reach" (spF K 3 R_reach) := by
  refine cl_F D sccan_reach rfl (fun _ _ _ _ _ _ us hl => match us, hl with | [_, _, _], _ => rfl) ?_
  intro f cdv A outer s H vs Q E ds d hr ht hR q
  obtain ⟨gs, i, j, hij, hj, hl, hg, rfl, rfl⟩ := hR
  obtain ⟨v1, v2, v3, rfl, h1, h2, h3⟩ := ht.three
  refine ⟨_, (pss_cons (ps_for PassesOwn.never rfl (pi_range3 (by rfl) T.range (pa_cons (pe_op op_sub (pv 2) pe_int) (pa_cons (pv 1) (pa_cons (pe_un un_neg pe_int) pa_nil)))) (pg_name (i := 3) sccan_reach.nd rfl (.inl rfl)) (pss_one (ps_if (pt_cmp (pc_isN (pe_cl c_exchanged hr (by omega) (by rfl) (pa_cons (pe_ix (kx_tup (K := K)) (pv 0) (pv 3) (fun _ _ => rfl)) (pa_cons (pe_ix (kx_tup (K := K)) (pv 0) (pv 2) (fun _ _ => rfl)) pa_nil))))) (pss_one (ps_ret pe_bl)) pss_nil)))
      (pss_one (ps_ret pe_bl))), ?_⟩
  show KP _ [some v1, some v2, some v3, none] H
  have i1 : TD K H v1 (.tuple (gs.map encG)) := h1
  cases h2.int_eq
  cases h3.int_eq
  refine k_seq (k_for (wd_down (lo := (j : Int) - 1) (hi := i) (ed_I0 (ed_var rfl h3) ed_int) (ed_var rfl h2) (ed_neg ed_int) (by omega) (by omega)) fun Hs s1 => ?_)
  refine ⟨fun t σ' H' => ∃ y, σ' = [some v1, some (.int i), some (.int j), y] ∧ Same Hs H' ∧ ∀ k, j ≤ k + t → k < j → exch (gAt gs k) (gAt gs j) = true, ⟨none, rfl, Same.refl _, fun k h1 h2 => by omega⟩, fun _ _ _ _ => trivial, fun t d u σ' H' hd q2 h => ?_, fun σ' H' h => ?_⟩
  · have hi : t < ((j : Int) - 1 - i).toNat := by
      obtain ⟨h, _⟩ := List.getElem?_eq_some_iff.mp hd
      rw [dwnD_len] at h
      exact h
    rw [dwnD_at hi] at hd
    have hd' := (Option.some.inj hd).symm
    subst hd'
    have hu := q2.int_eq
    subst hu
    obtain ⟨y, rfl, s2, hex⟩ := h
    have s3 := s1.trans s2
    have i1' := i1.up s3
    refine k_name ?_
    have e : (j : Int) - 1 - t = ((j - 1 - t : Nat) : Int) := by omega
    rw [e]
    have hk : j - 1 - t < gs.length := by omega
    have gsm : ∀ j, j < gs.length → GS (gAt gs j) := fun j hj => hg _ (gAt_mem hj)
    refine k_if1 (b := !exch (gAt gs (j - 1 - t)) (gAt gs j)) ?_ (fun hb => ?_) (fun hb => ?_)
    · refine et_B (K := K) (ed_is (ed_isN (ed_call (ds := [encG (gAt gs (j - 1 - t)), encG (gAt gs j)]) (ea_cons (ed_ix (ed_var rfl i1') (ed_var rfl (.int _)) (at_gate hk)) (ea_cons (ed_ix (ed_var rfl i1') (ed_var rfl (.int _)) (at_gate hj)) ea_nil)) ⟨_, _, gsm _ hk, gsm _ hj, rfl, rfl⟩)) ?_)
      cases exch (gAt gs (j - 1 - t)) (gAt gs j) <;> rfl
    · refine k_ret (K := K) (d := .bool false) ed_bl fun v H1 s5 q1 => q v H1 (s3.trans s5) ?_
      have : reachB gs i j = false := by
        cases hz : reachB gs i j with
        | false => rfl
        | true =>
          have := reach_iff.mp hz (j - 1 - t) (by omega) (by omega)
          rw [this] at hb
          cases hb
      rw [this]
      exact q1
    · refine k_mid fun H5 s5 => ⟨_, rfl, s2.trans s5, fun k h1 h2 => ?_⟩
      by_cases ek : k = j - 1 - t
      · rw [ek]
        simpa using hb
      · exact hex k (by omega) h2
  · obtain ⟨y, rfl, s2, hex⟩ := h
    rw [dwnD_len] at hex
    dsimp only
    apply k_at
    refine k_ret (K := K) (d := .bool true) ed_bl fun v H1 s5 q1 => q v H1 (s1.trans (s2.trans s5)) ?_
    rw [reach_iff.mpr fun k h1 h2 => hex k (by omega) h2]
    exact q1
def R_fit (m : Bool) (ds : List PyData) (d : PyData) : Prop := ∃ f s : Gate, GS f ∧ GS s ∧ ds = [encG f, encG s] ∧ d = .bool (fitB m f s)
abbrev Nsame_gate : List Str := ["first", "second"]
theorem scsame_gate : FnScope Nsame_gate ["first", "second"] (defScope ssame_gate) := ⟨rfl, rfl, rfl, by decide +kernel, rfl, by decide +kernel, by decide +kernel⟩
theorem ok_same_gate (T : Fx mg) (D : Df K mg "same_gate" ssame_gate) : Cl P w K mg base 2 "same_gate" (spF K 2 (R_fit true)) := by
  refine cl_F D scsame_gate rfl (fun _ _ _ _ _ _ us hl => match us, hl with | [_, _], _ => rfl) ?_
  intro f cdv A outer s H vs Q E ds d hr ht hR q
  obtain ⟨f1, s1, gf, gs, rfl, rfl⟩ := hR
  obtain ⟨v1, v2, rfl, h1, h2⟩ := ht.two
  refine ⟨_, (pss_one (ps_ret (pe_cmpR (ko_eqD (K := K) hr.units) (pv 0) (pv 1) (nomark _)))), ?_⟩
  show KP _ [some v1, some v2] H
  refine k_ret (K := K) (d := .bool (fitB true f1 s1)) (ed_is (ed_eqE (ed_var rfl h1) (ed_var rfl h2) (eo_G _) (eo_G _)) ?_) fun v H1 s1 q1 => q v H1 s1 q1
  rw [eqv_G]
  rfl
abbrev Ncan_merge : List Str := ["first", "second"]
theorem sccan_merge : FnScope Ncan_merge ["first", "second"] (defScope scan_merge) := ⟨rfl, rfl, rfl, by decide +kernel, rfl, by decide +kernel, by decide +kernel⟩
theorem ok_can_merge (T : Fx mg) (D : Df K mg "can_merge" scan_merge) (c_merged : Cl P w K mg base 1 "merged" (spF K 2 R_merged)) : Cl P w K mg base 2 "can_merge" (spF K 2 (R_fit false)) := by
  refine cl_F D sccan_merge rfl (fun _ _ _ _ _ _ us hl => match us, hl with | [_, _], _ => rfl) ?_
  intro f cdv A outer s H vs Q E ds d hr ht hR q
  obtain ⟨f1, s1, gf, gs, rfl, rfl⟩ := hR
  obtain ⟨v1, v2, rfl, h1, h2⟩ := ht.two
  refine ⟨_, (pss_one (ps_ret (pe_cmp (pc_notN (pe_cl c_merged hr (by omega) (by rfl) (pa_cons (pv 0) (pa_cons (pv 1) pa_nil))))))), ?_⟩
  show KP _ [some v1, some v2] H
  refine k_ret (K := K) (d := .bool (fitB false f1 s1)) (ed_is (ed_notN (d := encO encG (merged f1 s1)) (ed_call (ds := [encG f1, encG s1]) (ea_cons (ed_var rfl h1) (ea_cons (ed_var rfl h2) ea_nil)) ⟨f1, s1, gf, gs, rfl, rfl⟩)) ?_) fun v H1 s1 q1 => q v H1 s1 q1
  show PyData.bool _ = .bool (merged f1 s1).isSome
  cases merged f1 s1 <;> rfl
end
end Bk

set_option Elab.async false
set_option linter.all false
set_option maxRecDepth 100000
set_option maxHeartbeats 4000000
namespace Bk
open PySem PySem.Spec PyProof.Rows L2

local macro_rules | `(tactic| walk_at "ed") => `(tactic| first
  | assumption
  | exact ed_int | exact ed_bl | exact ed_non | exact ed_str | exact ea_nil | exact ep_none | exact et_yes
  | (apply ed_var rfl; assumption)
  | (apply ea_cons; walk_at "ed"; walk_at "ed")
  | (apply ed_ix; walk_at "ed"; walk_at "ed"; rfl)
  | (apply et_B; walk_at "ed")
  | (apply et_T; walk_at "ed")
  | (apply ed_tup; walk_at "ed"; (apply le_line; simp only [List.length_cons, List.length_nil]; omega))
  | (apply ed_eqI; walk_at "ed"; walk_at "ed")
  | (apply ed_neI; walk_at "ed"; walk_at "ed")
  | (apply ed_eqS; walk_at "ed"; walk_at "ed")
  | (apply ed_neS; walk_at "ed"; walk_at "ed")
  | (apply ed_I0; walk_at "ed"; walk_at "ed")
  | (apply ed_B0; walk_at "ed"; walk_at "ed")
  | (apply ed_neg; walk_at "ed")
  | (apply ed_isN; walk_at "ed")
  | (apply ed_notN; walk_at "ed")
  | (apply ed_lenT; walk_at "ed")
  | (apply ep_some; walk_at "ed")
  | (apply ed_sl; walk_at "ed"; walk_at "ed"; walk_at "ed")
  | (apply el_lst; walk_at "ed"; (apply le_line; simp only [List.length_cons, List.length_nil]; omega))
  | (apply ed_tupL; walk_at "ed")
  | (apply et_not; walk_at "ed")
  | (apply ed_notV; walk_at "ed")
  | (apply ed_isInt; walk_at "ed")
  | (apply ed_isBool; walk_at "ed")
  | (apply ed_isTup; walk_at "ed")
  | (apply ed_isStr; walk_at "ed")
  | (apply ed_andF; walk_at "ed"; rfl)
  | (apply ed_andT; walk_at "ed"; rfl; walk_at "ed")
  | (apply ed_orT; walk_at "ed"; rfl)
  | (apply ed_orF; walk_at "ed"; rfl; walk_at "ed")
  | (apply et_andF; walk_at "ed"; rfl)
  | (apply et_andT; walk_at "ed"; rfl; walk_at "ed")
  | (apply et_orT; walk_at "ed"; rfl)
  | (apply et_orF; walk_at "ed"; rfl; walk_at "ed")
  | (apply ed_andV; walk_at "ed"; (intro _; walk_at "ed"))
  | (apply ed_orV; walk_at "ed"; (intro _; walk_at "ed"))
  | (apply et_and; walk_at "ed"; (intro _; walk_at "ed"))
  | (apply et_or; walk_at "ed"; (intro _; walk_at "ed")))

section
variable {K : PySem.W.Frag} {H H' : Hp} {σ : L2.St} {te ta tb : TE}
def rngU (lo n : Nat) : List PyData := (List.range n).map fun i : Nat => PyData.int ((lo + i : Nat) : Int)
theorem rngU_len (lo n : Nat) : (rngU lo n).length = n := by unfold rngU; rw [List.length_map, List.length_range]
theorem rngU_at {lo n i : Nat} (h : i < n) : (rngU lo n)[i]? = some (.int ((lo + i : Nat) : Int)) := by
  unfold rngU
  rw [List.getElem?_map, List.getElem?_range h]
  rfl
theorem wd_up {lo hi : Nat} (ha : ED K ta σ H (.int lo)) (hb : ED K tb σ H (.int hi)) (h1 : lo ≤ 100000) (h2 : hi ≤ 100000) : WD K (fun _ _ => True) (iRng2 (tCons ta (tCons tb tNil))) σ H (rngU lo (hi - lo)) := fun H1 a R k => ev_int ha H1 a _ fun H2 b => ev_int hb H2 (a.trans b) _ fun H3 c => by
  refine ⟨lo, hi, rfl, ⟨by omega, by omega, by omega, by omega⟩, ?_⟩
  rw [show ((hi : Int) - lo).toNat = hi - lo by omega]
  refine k _ H3 (fun _ => True) (fun i H x H' => i < hi - lo ∧ H' = H ∧ x = V.int ((lo : Int) + (i : Nat))) (b.trans c) ?_ (fun _ _ => trivial) fun i H3 x H4 _ r => ⟨r.2.1, .int ((lo + i : Nat) : Int), rngU_at r.1, ?_⟩
  · rw [rngU_len]
    exact ⟨fun i H hi _ => hi, fun H _ => Nat.le_refl _, fun i H x H' hi _ y => ⟨hi, y⟩⟩
  · rw [r.2.2, Int.natCast_add]
    exact .int _
/-- a reading of which only R is known -/
def EDR (K : PySem.W.Frag) (te : TE) (σ : L2.St) (H : Hp) (R : PyData → Prop) : Prop := ∀ H1, Same H H1 → ∀ Q : VK, (∀ v d H2, Same H1 H2 → TD K H2 v d → R d → Q v H2) → te σ H1 Q
theorem k_setR {i : Nat} {D : Ends} {R : PyData → Prop} (h : EDR K te σ H R) (k : ∀ v d H1, Same H H1 → TD K H1 v d → R d → KP D.nx (σ.set i (some v)) H1) : KP (tAsg te (gName i) D) σ H := fun H1 s => h H1 s _ fun v d H2 s2 q r => k v d H2 (s.trans s2) q r H2 (Same.refl _)
theorem k_retR {D : Ends} {R : PyData → Prop} (h : EDR K te σ H R) (k : ∀ v d H1, Same H H1 → TD K H1 v d → R d → D.rt v H1) : KP (tRet te D) σ H := fun H1 s => h H1 s _ fun v d H2 s2 q r => k v d H2 (s.trans s2) q r
/-- a def that takes, behind its first value, one of several defs -/
def spP (K : PySem.W.Frag) (S : Addr → Option Bool) (n : Nat) (Dm : Bool → List PyData → Prop) (R : Bool → List PyData → PyData → Prop) : Sp := fun vs H Q _ => vs.length = n ∧ ∃ v0 f m rest ds, vs = v0 :: .ref f :: rest ∧ S f = some m ∧ TDs K H (v0 :: rest) ds ∧ Dm m ds ∧
  ∀ v d H', Same H H' → TD K H' v d → R m ds d → Q v H'
/-- a def of which R tells what may come -/
def spR (K : PySem.W.Frag) (n : Nat) (Dm : List PyData → Prop) (R : List PyData → PyData → Prop) : Sp := fun vs H Q _ => vs.length = n ∧ ∃ ds, TDs K H vs ds ∧ Dm ds ∧ ∀ v d H', Same H H' → TD K H' v d → R ds d → Q v H'
theorem edr_call {n : Nat} {Dm : List PyData → Prop} {R : List PyData → PyData → Prop} {E : XK} {tr : TA} {ds : List PyData} (h : EA K tr σ H ds) (hD : Dm ds) (hn : ds.length = n := by rfl) : EDR K (tCall (spR K n Dm R) [] E tr) σ H (R ds) := fun H1 s Q k =>
  h H1 s _ fun vs H2 s2 q => ⟨by rw [List.append_nil, q.len]; exact hn, ds, by rw [List.append_nil]; exact q, hD, fun v d H3 s3 r x => k v d H3 (s2.trans s3) r x⟩
theorem edr_callP {S : Addr → Option Bool} {m : Bool} {f : Addr} {n : Nat} {Dm : Bool → List PyData → Prop} {R : Bool → List PyData → PyData → Prop} {E : XK} {tr : TA} {d0 : PyData} {ds : List PyData} (h : ED K ta σ H d0) (hf : EV tb σ H (.ref f)) (hr : EA K tr σ H ds) (hS : S f = some m) (hD : Dm m (d0 :: ds)) (hn : ds.length + 2 = n := by rfl) :
    EDR K (tCall (spP K S n Dm R) [] E (tCons ta (tCons tb tr))) σ H (R m (d0 :: ds)) := fun H1 s Q k =>
  h H1 s _ fun v H2 s2 q => hf H2 (s.trans s2) _ fun H3 s3 => hr H3 (s.trans (s2.trans s3)) _ fun vs H4 s4 qs => ⟨by rw [List.append_nil]; simp only [List.length_cons]; rw [qs.len]; exact hn, v, f, m, vs, d0 :: ds, by rw [List.append_nil], hS, .cons (q.up (s3.trans s4)) qs, hD, fun v d H5 s5 r x => k v d H5 (s2.trans (s3.trans (s4.trans s5))) r x⟩
theorem ed_callA {i : Nat} {S : Addr → Option Sp} {f : Addr} {n : Nat} {R : List PyData → PyData → Prop} {tr : TA} {ds : List PyData} {d : PyData} (hs : σ[i]? = some (some (.ref f))) (hS : S f = some (spF K n R)) (h : EA K tr σ H ds) (hR : R ds d) (hn : ds.length = n := by rfl) : ED K (tCallA i S tr) σ H d := fun H1 s Q k =>
  ⟨f, _, hs, hS, h H1 s _ fun vs H2 s2 q => ⟨by rw [q.len]; exact hn, ds, d, q, hR, fun v H3 s3 r => k v H3 (s2.trans s3) r⟩⟩
def isAt (mg : Str → Option Value) (x : Str) (f : Addr) : Bool := match mg x with
  | some (.ref g) => decide (g = f)
  | _ => false
theorem isAt_iff {mg : Str → Option Value} {x : Str} {f : Addr} : isAt mg x f = true ↔ mg x = some (.ref f) := by
  unfold isAt
  constructor
  · intro h
    split at h
    · rename_i g e
      rw [e, of_decide_eq_true h]
    · cases h
  · intro h
    rw [h]
    exact decide_eq_true rfl
def twoS (mg : Str → Option Value) (x y : Str) (f : Addr) : Option Bool := if isAt mg x f then some true else if isAt mg y f then some false else none
def twoSp (mg : Str → Option Value) (x y : Str) (sp : Bool → Sp) (f : Addr) : Option Sp := (twoS mg x y f).map sp
theorem two_held {P : Program} {w : World} {mg : Str → Option Value} {base : Heap} {k : Nat} {x y : Str} {sp : Bool → Sp} (cx : Cl P w K mg base k x (sp true)) (cy : Cl P w K mg base k y (sp false)) (f : Addr) (s : Sp) (h : twoSp mg x y sp f = some s) : Held P w K mg base k f s := by
  unfold twoSp twoS at h
  split at h
  · rename_i hx
    cases h
    obtain ⟨f', fd, ps, F, hm, kp, hb⟩ := cx.ex
    rw [isAt_iff.mp hx] at hm
    cases hm
    exact ⟨fd, ps, F, kp, hb⟩
  · split at h
    · rename_i hy
      cases h
      obtain ⟨f', fd, ps, F, hm, kp, hb⟩ := cy.ex
      rw [isAt_iff.mp hy] at hm
      cases hm
      exact ⟨fd, ps, F, kp, hb⟩
    · cases h
abbrev fitS (mg : Str → Option Value) : Addr → Option Bool := twoS mg "same_gate" "can_merge"
abbrev fitSp (K : PySem.W.Frag) (mg : Str → Option Value) : Addr → Option Sp := twoSp mg "same_gate" "can_merge" fun m => spF K 2 (R_fit m)
end
section
variable {P : Program} {w : World} {K : PySem.W.Frag} {mg : Str → Option Value} {base : Heap}
theorem encC_inj {a b : Int × Int} (h : encC a = encC b) : a = b := by
  have := congrArg asC h
  exact this
theorem map_inj {α : Type} {f : α → PyData} (hf : ∀ a b, f a = f b → a = b) : ∀ {l m : List α}, l.map f = m.map f → l = m
  | [], [], _ => rfl
  | a :: l, b :: m, h => by
    rw [List.map_cons, List.map_cons] at h
    injection h with h1 h2
    rw [hf _ _ h1, map_inj hf h2]
  | [], _ :: _, h => by cases h
  | _ :: _, [], h => by cases h
theorem encG_inj {a b : Gate} (h : encG a = encG b) : a = b := by
  injection h with h
  injection h with h1 h
  injection h1 with h1
  injection h with h2 _
  injection h2 with h2
  exact Prod.ext h1 (map_inj (fun _ _ => encC_inj) h2)
theorem encGs_inj {a b : List Gate} (h : encGs a = encGs b) : a = b := by
  injection h with h
  exact map_inj (fun _ _ => encG_inj) h
theorem encCi_inj {a b : Circ} (h : encCi a = encCi b) : a = b := by
  injection h with h
  injection h with h1 h
  injection h1 with h1
  injection h with h2 _
  exact Prod.ext h1 (encGs_inj h2)
def D_pair (_ : Bool) (ds : List PyData) : Prop := ∃ gs : List Gate, gs.length ≤ 1000 ∧ (∀ g ∈ gs, GS g) ∧ ds = [encGs gs]
def R_pair (m : Bool) (ds : List PyData) (d : PyData) : Prop := ∀ gs : List Gate, ds = [encGs gs] → d = .none ∨ ∃ i j : Nat, i < j ∧ j < gs.length ∧ reachB gs i j = true ∧ fitB m (gAt gs i) (gAt gs j) = true ∧ d = .tuple [.int i, .int j]
abbrev Nfirst_pair : List Str := ["gates", "fits", "i", "j"]
theorem scfirst_pair : FnScope Nfirst_pair ["gates", "fits"] (defScope sfirst_pair) := ⟨rfl, rfl, rfl, by decide +kernel, rfl, by decide +kernel, by decide +kernel⟩
theorem ok_first_pair (T : Fx mg) (D : Df K mg "first_pair" sfirst_pair) (c_can_reach : Cl P w K mg base 3 "can_reach" (spF K 3 R_reach)) (c_same : Cl P w K mg base 2 "same_gate" (spF K 2 (R_fit true))) (c_can : Cl P w K mg base 2 "can_merge" (spF K 2 (R_fit false))) : Cl P w K mg base 4 "first_pair" (spP K (fitS mg) 2 D_pair R_pair) := by
  refine cl_mk D scfirst_pair (fun _ _ _ _ h => h.1) (fun _ _ _ _ _ _ us hl => match us, hl with | [_, _], _ => rfl) ?_
  intro f cdv A outer s H vs Q E hr h
  obtain ⟨hl, v1, fa, m, rest, ds, rfl, hS, ht, hD, q⟩ := h
  have e0 : rest = [] := List.length_eq_zero_iff.mp (Nat.succ.inj (Nat.succ.inj hl))
  subst e0
  obtain ⟨gs, hlen, hgs, rfl⟩ := hD
  obtain ⟨v1', e1, h1⟩ := ht.one
  cases e1
  have hA := two_held (sp := fun m => spF K 2 (R_fit m)) c_same c_can
  refine ⟨_, (pss_cons (ps_for PassesOwn.never rfl (pi_range1 (by rfl) T.range (pa_cons (pe_callB (kc_len (K := K)) (by rfl) T.len bt_len (pa_cons (pv 0) pa_nil)) pa_nil)) (pg_name (i := 2) scfirst_pair.nd rfl (.inl rfl)) (pss_one (ps_for PassesOwn.never rfl (pi_range2 (by rfl) T.range (pa_cons (pe_op op_add (pv 2) pe_int) (pa_cons (pe_callB (kc_len (K := K)) (by rfl) T.len bt_len (pa_cons (pv 0) pa_nil)) pa_nil))) (pg_name (i := 3) scfirst_pair.nd rfl (.inl rfl)) (pss_one (ps_if (PW.pt (pw_and (pt_val (pe_callA (i := 1) hA (hr.mono (by decide)) rfl (by first | exact .inl rfl | exact .inr (.inl rfl) | exact .inr (.inr rfl)) (pa_cons (pe_ix (kx_tup (K := K)) (pv 0) (pv 2) (fun _ _ => rfl)) (pa_cons (pe_ix (kx_tup (K := K)) (pv 0) (pv 3) (fun _ _ => rfl)) pa_nil)))) (pw_and1 (pt_val (pe_cl c_can_reach hr (by omega) (by rfl) (pa_cons (pv 0) (pa_cons (pv 2) (pa_cons (pv 3) pa_nil)))))))) (pss_one (ps_ret (pe_tupP (pa_cons (pv 2) (pa_cons (pv 3) pa_nil))))) pss_nil)))))
      (pss_one (ps_ret pe_non))), ?_⟩
  refine k_at ?_
  show KP _ [some v1, some (.ref fa), none, none] H
  have hS2 : fitSp K mg fa = some (spF K 2 (R_fit m)) := by
    show (fitS mg fa).map _ = _
    rw [hS]
    rfl
  have lg : (gs.map encG).length = gs.length := List.length_map ..
  have gsm : ∀ j, j < gs.length → GS (gAt gs j) := fun j hj => hgs _ (gAt_mem hj)
  refine k_seq (k_for (wd_rng (n := gs.length) (ed_is (ed_lenT (ds := gs.map encG) (ed_var rfl h1)) (by rw [lg])) (by omega)) fun Hs s1 => ?_)
  refine ⟨fun _ σ' H' => ∃ x y, σ' = [some v1, some (.ref fa), x, y] ∧ Same Hs H', ⟨none, none, rfl, Same.refl _⟩, fun _ _ _ _ => trivial, fun i d u σ' H' hd q2 h => ?_, fun σ' H' h => ?_⟩
  · have hi : i < gs.length := by
      obtain ⟨h, _⟩ := List.getElem?_eq_some_iff.mp hd
      rw [rngD_len] at h
      exact h
    rw [rngD_at hi] at hd
    have hd' := (Option.some.inj hd).symm
    subst hd'
    have hu := q2.int_eq
    subst hu
    obtain ⟨x, y, rfl, s2⟩ := h
    refine k_name ?_
    dsimp only
    have s3 := s1.trans s2
    refine k_for (wd_up (lo := i + 1) (hi := gs.length) (ed_is (ed_I0 (ed_var rfl (.int _)) ed_int) (by rfl)) (ed_is (ed_lenT (ds := gs.map encG) (ed_var rfl (h1.up s3))) (by rw [lg])) (by omega) (by omega)) fun Hs2 s4 => ?_
    refine ⟨fun _ σ' H' => ∃ y, σ' = [some v1, some (.ref fa), some (.int i), y] ∧ Same Hs2 H', ⟨y, rfl, Same.refl _⟩, fun _ _ _ _ => trivial, fun t d u σ' H'' hd q2 h => ?_, fun σ' H'' h => ?_⟩
    · have ht : t < gs.length - (i + 1) := by
        obtain ⟨h, _⟩ := List.getElem?_eq_some_iff.mp hd
        rw [rngU_len] at h
        exact h
      rw [rngU_at ht] at hd
      have hd' := (Option.some.inj hd).symm
      subst hd'
      have hu := q2.int_eq
      subst hu
      obtain ⟨y, rfl, s5⟩ := h
      refine k_name ?_
      dsimp only
      have s6 := s3.trans (s4.trans s5)
      have h1' : TD K H'' v1 (.tuple (gs.map encG)) := h1.up s6
      have hj : i + 1 + t < gs.length := by omega
      refine k_if1 (b := fitB m (gAt gs i) (gAt gs (i + 1 + t)) && reachB gs i (i + 1 + t)) ?_ (fun hb => ?_) (fun hb => ?_)
      · refine et_and (et_B (K := K) (ed_callA (f := fa) (ds := [encG (gAt gs i), encG (gAt gs (i + 1 + t))]) rfl hS2 (ea_cons (ed_ix (ed_var rfl h1') (ed_var rfl (.int _)) (at_gate hi)) (ea_cons (ed_ix (ed_var rfl h1') (ed_var rfl (.int _)) (at_gate hj)) ea_nil)) ⟨_, _, gsm _ hi, gsm _ hj, rfl, rfl⟩)) fun _ =>
          et_B (K := K) (ed_call (ds := [encGs gs, .int i, .int ((i + 1 + t : Nat) : Int)]) (ea_cons (ed_var rfl h1') (ea_cons (ed_var rfl (.int _)) (ea_cons (ed_var rfl (.int _)) ea_nil))) ⟨gs, i, i + 1 + t, by omega, hj, hlen, hgs, rfl, rfl⟩)
      · rw [Bool.and_eq_true] at hb
        refine k_ret (K := K) (d := .tuple [.int i, .int ((i + 1 + t : Nat) : Int)]) (ed_tup (ea_cons (ed_var rfl (.int _)) (ea_cons (ed_var rfl (.int _)) ea_nil)) (le_line (by simp))) fun v H1 s7 q1 => q v _ H1 (s6.trans s7) q1 fun gs' e => ?_
        have e' : gs' = gs := by
          have := List.head_eq_of_cons_eq e
          exact (encGs_inj this).symm
        subst e'
        exact .inr ⟨i, i + 1 + t, by omega, hj, hb.2, hb.1, rfl⟩
      · exact k_mid fun H5 s7 => ⟨_, rfl, s5.trans s7⟩
    · obtain ⟨y, rfl, s5⟩ := h
      exact ⟨_, _, rfl, s2.trans (s4.trans s5)⟩
  · obtain ⟨x, y, rfl, s2⟩ := h
    dsimp only
    apply k_at
    refine k_ret (K := K) (d := .none) ed_non fun v H1 s5 q1 => q v _ H1 (s1.trans (s2.trans s5)) q1 fun gs' e => .inl rfl
end
end Bk

set_option Elab.async false
set_option linter.all false
set_option maxRecDepth 100000
set_option maxHeartbeats 4000000
namespace Bk
open PySem PySem.Spec PyProof.Rows L2

local macro_rules | `(tactic| walk_at "ed") => `(tactic| first
  | assumption
  | exact ed_int | exact ed_bl | exact ed_non | exact ed_str | exact ea_nil | exact ep_none | exact et_yes
  | (apply ed_var rfl; assumption)
  | (apply ea_cons; walk_at "ed"; walk_at "ed")
  | (apply ed_ix; walk_at "ed"; walk_at "ed"; rfl)
  | (apply et_B; walk_at "ed")
  | (apply et_T; walk_at "ed")
  | (apply ed_tup; walk_at "ed"; (apply le_line; simp only [List.length_cons, List.length_nil]; omega))
  | (apply ed_eqI; walk_at "ed"; walk_at "ed")
  | (apply ed_neI; walk_at "ed"; walk_at "ed")
  | (apply ed_eqS; walk_at "ed"; walk_at "ed")
  | (apply ed_neS; walk_at "ed"; walk_at "ed")
  | (apply ed_I0; walk_at "ed"; walk_at "ed")
  | (apply ed_B0; walk_at "ed"; walk_at "ed")
  | (apply ed_neg; walk_at "ed")
  | (apply ed_isN; walk_at "ed")
  | (apply ed_notN; walk_at "ed")
  | (apply ed_lenT; walk_at "ed")
  | (apply ep_some; walk_at "ed")
  | (apply ed_sl; walk_at "ed"; walk_at "ed"; walk_at "ed")
  | (apply el_lst; walk_at "ed"; (apply le_line; simp only [List.length_cons, List.length_nil]; omega))
  | (apply ed_tupL; walk_at "ed")
  | (apply et_not; walk_at "ed")
  | (apply ed_notV; walk_at "ed")
  | (apply ed_isInt; walk_at "ed")
  | (apply ed_isBool; walk_at "ed")
  | (apply ed_isTup; walk_at "ed")
  | (apply ed_isStr; walk_at "ed")
  | (apply ed_andF; walk_at "ed"; rfl)
  | (apply ed_andT; walk_at "ed"; rfl; walk_at "ed")
  | (apply ed_orT; walk_at "ed"; rfl)
  | (apply ed_orF; walk_at "ed"; rfl; walk_at "ed")
  | (apply et_andF; walk_at "ed"; rfl)
  | (apply et_andT; walk_at "ed"; rfl; walk_at "ed")
  | (apply et_orT; walk_at "ed"; rfl)
  | (apply et_orF; walk_at "ed"; rfl; walk_at "ed")
  | (apply ed_andV; walk_at "ed"; (intro _; walk_at "ed"))
  | (apply ed_orV; walk_at "ed"; (intro _; walk_at "ed"))
  | (apply et_and; walk_at "ed"; (intro _; walk_at "ed"))
  | (apply et_or; walk_at "ed"; (intro _; walk_at "ed")))

section
variable {K : PySem.W.Frag} {H H' : Hp} {σ : L2.St} {te ta tb to : TE}
theorem k_append {p : Addr} {ws : List V} {d : PyData} {D : Ends} (hp : H p = some (.lst ws)) (ho : EV to σ H (.ref p)) (ha : ED K ta σ H d) (hl : ws.length < 100000) (k : ∀ v H1, Same H H1 → TD K H1 v d → D.nx σ (upd H1 p (.lst (ws ++ [v])))) :
    KP (tDrop (tBM K "list" rAppend to (tCons ta tNil)) D) σ H := fun H1 a => ho H1 a _ fun H2 b =>
  ⟨.inl ⟨rfl, ws, .inl (.inl ((a.trans b) _ _ hp))⟩, ha H2 (a.trans b) _ fun v H3 c q => ⟨p, ws, v, rfl, rfl, ((a.trans b).trans c) _ _ hp, Nat.lt_of_lt_of_le hl (le_line (Nat.le_refl _)), k v H3 ((a.trans b).trans c) q⟩⟩
theorem k_extend {p b : Addr} {ws zs : List V} {D : Ends} (hp : H p = some (.lst ws)) (hb : H b = some (.lst zs)) (ho : EV to σ H (.ref p)) (ha : EV ta σ H (.ref b)) (hl : ws.length + zs.length ≤ 100000) (k : ∀ H1, Same H H1 → D.nx σ (upd H1 p (.lst (ws ++ zs)))) :
    KP (tDrop (tBM K "list" rExtend to (tCons ta tNil)) D) σ H := fun H1 a => ho H1 a _ fun H2 s =>
  ⟨.inl ⟨rfl, ws, .inl (.inl ((a.trans s) _ _ hp))⟩, ha H2 (a.trans s) _ fun H3 c => ⟨p, b, ws, zs, rfl, rfl, ((a.trans s).trans c) _ _ hp, ((a.trans s).trans c) _ _ hb, le_line hl, k H3 ((a.trans s).trans c)⟩⟩
theorem k_while {c : TT} {tb : TS} {D : Ends} (W : Nat → L2.St → Hp → Prop) (m0 : Nat) (h0 : ∀ H1, Same H H1 → W m0 σ H1)
    (hs : ∀ m σ' H', W m σ' H' → ∃ b, ET c σ' H' b ∧ (b = true → KP (tb { D with nx := fun σ2 H2 => ∃ m', m' < m ∧ W m' σ2 H2, ct := fun σ2 H2 => ∃ m', m' < m ∧ W m' σ2 H2, bk := D.nx }) σ' H') ∧ (b = false → KP D.nx σ' H')) : KP (tWhile c tb D) σ H := fun H1 a =>
  ⟨W, ⟨m0, h0 H1 a⟩, fun m σ' H' hw => by
    obtain ⟨b, hb, h1, h2⟩ := hs m σ' H' hw
    refine hb H' (Same.refl _) _ fun H2 s2 => ?_
    cases b with
    | true => exact ⟨_, fun _ _ h => h, h1 rfl H2 s2⟩
    | false => exact h2 rfl H2 s2⟩
end
section
variable {P : Program} {w : World} {K : PySem.W.Frag} {mg : Str → Option Value} {base : Heap}
def D_gath (m : Bool) (ds : List PyData) : Prop := ∃ (W : Int) (c : Circ), W ≤ 6 ∧ CS W c ∧ c.2.length ≤ 20 ∧ ds = [encCi c, .str (fitW m).name]
def Gath (c : Circ) (d : PyData) : Prop := ∃ (ss : List (Wd × Nat)) (c' : Circ), d = .tuple (ss.map sd) ∧ applyF 0 c (ss.map sd) = (some c', -1) ∧ ss.length + 20 * c'.2.length ≤ 20 * c.2.length
def R_gath (m : Bool) (ds : List PyData) (d : PyData) : Prop := ∀ c, ds = [encCi c, .str (fitW m).name] → Gath c d
abbrev Ngathered : List Str := ["circuit", "fits", "word", "steps", "pair", "i", "j", "found", "k"]
theorem scgathered : FnScope Ngathered ["circuit", "fits", "word"] (defScope sgathered) := ⟨rfl, rfl, rfl, by decide +kernel, rfl, by decide +kernel, by decide +kernel⟩
theorem ok_gathered (T : Fx mg) (D : Df K mg "gathered" sgathered) (c_first_pair : Cl P w K mg base 4 "first_pair" (spP K (fitS mg) 2 D_pair R_pair)) (c_apply_steps : Cl P w K mg base 5 "apply_steps" (spF K 2 R_steps)) : Cl P w K mg base 6 "gathered" (spP K (fitS mg) 3 D_gath R_gath) := by
  refine cl_mk D scgathered (fun _ _ _ _ h => h.1) (fun _ _ _ _ _ _ us hl => match us, hl with | [_, _, _], _ => rfl) ?_
  intro f cdv A outer s H vs Q E hr h
  obtain ⟨hl, v1, fa, m, rest, ds, rfl, hS, ht, hD, q⟩ := h
  obtain ⟨W, c, hW, hc, hcl, rfl⟩ := hD
  obtain ⟨v1', v2, e1, h1, h2⟩ := ht.two
  cases e1
  cases h2.str_eq
  refine ⟨_, (pss_cons (ps_set (i := 3) scgathered.nd rfl (.inl rfl) (pe_lst pa_nil))
      (pss_cons (ps_set (i := 4) scgathered.nd rfl (.inl rfl) (pe_cl c_first_pair hr (by omega) (by rfl) (pa_cons (pe_ix (kx_tup (K := K)) (pv 0) pe_int (fun _ _ => rfl)) (pa_cons (pv 1) pa_nil))))
      (pss_cons (ps_while PassesOwn.never (pt_cmp (pc_notN (pv 4))) (pss_cons (ps_asg (pv 4) (kg_tup (K := K) (n := 2) rfl (pgs_cons (pg_name (i := 5) scgathered.nd rfl (.inl rfl)) (pgs_cons (pg_name (i := 6) scgathered.nd rfl (.inl rfl)) pgs_nil))))
        (pss_cons (ps_set (i := 7) scgathered.nd rfl (.inl rfl) (pe_op op_cat (pe_lc (own := [("k", 8)]) (g := gName 8) (tt := tYes) rfl scgathered.nd (pi_range3 (by rfl) T.range (pa_cons (pe_op op_sub (pv 6) pe_int) (pa_cons (pv 5) (pa_cons (pe_un un_neg pe_int) pa_nil)))) (blkOk_by (own := [("k", 8)]) (N := Ngathered) (sc := defScope sgathered) (by decide +kernel)) (fun _ _ _ _ _ => (pg_name (i := 8) scgathered.nd rfl (.inl rfl))) (fun _ _ _ _ _ => pts_nil) (fun _ _ _ _ _ => (pe_tupP (pa_cons pe_str (pa_cons (pv 8) pa_nil))))) (pe_lst (pa_cons (pe_tupP (pa_cons (pv 2) (pa_cons (pv 5) pa_nil))) pa_nil))))
        (pss_cons (ps_set (i := 0) scgathered.nd rfl (.inl rfl) (pe_ix (kx_tup (K := K)) (pe_cl c_apply_steps hr (by omega) (by rfl) (pa_cons (pv 0) (pa_cons (pe_callTy (kc_tup (K := K)) (by rfl) T.tuple bt_tuple (pa_cons (pv 7) pa_nil)) pa_nil))) pe_int (fun _ _ => rfl)))
        (pss_cons (ps_expr (k_app (K := K) (id := "list.extend") (pe_bm PySem.F.plainAttrs_list PySem.F.slot_list_extend PySem.F.type_list_extend mt_extend (pv 3) (pa_cons (pv 7) pa_nil))))
        (pss_one (ps_set (i := 4) scgathered.nd rfl (.inl rfl) (pe_cl c_first_pair hr (by omega) (by rfl) (pa_cons (pe_ix (kx_tup (K := K)) (pv 0) pe_int (fun _ _ => rfl)) (pa_cons (pv 1) pa_nil))))))))))
      (pss_one (ps_ret (pe_callTy (kc_tup (K := K)) (by rfl) T.tuple bt_tuple (pa_cons (pv 3) pa_nil))))))), ?_⟩
  refine k_at ?_
  show KP _ [some v1, some (.ref fa), some (.str (fitW m).name), none, none, none, none, none, none] H
  have hfw : (fitW m).len = 2 ∧ (fitW m).use = 2 := by cases m <;> exact ⟨rfl, rfl⟩
  refine k_setL (K := K) (ds := []) (el_lst ea_nil) fun p vs H1 np e1 hp hv => ?_
  cases hv
  have gsm : ∀ {ci : Circ}, CS W ci → ∀ g ∈ ci.2, GS g := fun h g m => (h.g g m).gs hW
  have h1' : TD K H1 v1 (.tuple [.int c.1, encGs c.2]) := h1.up e1
  dsimp only
  refine k_setR (R := R_pair m [encGs c.2]) (edr_callP (ed_ix (ed_var rfl h1') ed_int rfl) (ev_var rfl) ea_nil hS ⟨c.2, by omega, gsm hc, rfl⟩) fun pv pd H2 e2 q2 r2 => ?_
  dsimp only
  refine k_seq (k_while (fun mm σ' H' => ∃ cv pv pd x5 x6 x7 ss ci ws, σ' = [some cv, some (.ref fa), some (.str (fitW m).name), some (.ref p), some pv, x5, x6, x7, none] ∧ Same H H' ∧ H' p = some (.lst ws) ∧ TDs K H' ws (ss.map sd) ∧ TD K H' cv (encCi ci) ∧ TD K H' pv pd ∧ R_pair m [encGs ci.2] pd ∧
    applyF 0 c (ss.map sd) = (some ci, -1) ∧ ss.length + 20 * ci.2.length ≤ 20 * c.2.length ∧ mm = ci.2.length) c.2.length (fun H3 s3 => ⟨v1, pv, pd, none, none, none, [], c, [], rfl, (e1.trans e2).trans s3, s3 _ _ (e2 _ _ hp), .nil, h1.up ((e1.trans e2).trans s3), q2.up s3, r2, rfl, by simp, rfl⟩) fun mm σ' H' h => ?_)
  obtain ⟨cv, pv, pd, x5, x6, x7, ss, ci, ws, rfl, s1, hp', tw, tc, tp, rp, hap, hle, rfl⟩ := h
  refine ⟨!isNon pd, et_B (K := K) (ed_notN (ed_var rfl tp)), fun hb => ?_, fun hb => ?_⟩
  · obtain rfl | ⟨i, j, hij, hj, hre, hfi, rfl⟩ := rp ci.2 rfl
    · cases hb
    obtain ⟨hci, _, _⟩ := applyF_ok hc hap
    have hgl : ci.2.length ≤ 20 := by omega
    obtain ⟨c2, hc2, hlt⟩ := gather_fit (W := ci.1) hij hj hre hfi 0
    have glen : (gather (fitW m) i j).length ≤ 20 := by
      unfold gather chain
      rw [List.length_append, List.length_map, posD_len]
      simp only [List.length_cons, List.length_nil]
      omega
    refine k_unp2 (d := .int i) (e := .int j) (ed_var rfl tp) fun vi vj H3 s3 qi qj => ?_
    cases qi.int_eq
    cases qj.int_eq
    dsimp only
    refine k_setL (K := K) (ds := (gather (fitW m) i j).map sd) ?_ fun fp fv H4 nfp s4 hfp tf => ?_
    · have eg : (gather (fitW m) i j).map sd = (((dwnD ((j : Int) - 1) ((j : Int) - 1 - i).toNat).filter fun _ => true).map fun d => .tuple [.str "exchange", d]) ++ [.tuple [.str (fitW m).name, .int i]] := by
        unfold gather chain
        rw [List.map_append, filt]
        congr 1
        have e := posD_map (i + 1) (j - 1 - i)
        rw [show (((i + 1 : Nat) : Int) + ((j - 1 - i : Nat) : Int) - 1) = (j : Int) - 1 by omega, show j - 1 - i = ((j : Int) - 1 - i).toNat by omega] at e
        rw [← e, List.map_map, List.map_map, show j - 1 - i = ((j : Int) - 1 - i).toNat by omega]
        rfl
      rw [eg]
      refine el_cat (el_lc (fun _ => true) (fun d => .tuple [.str "exchange", d]) (wd_mono (wd_down (lo := (j : Int) - 1) (hi := i) (ed_I0 (ed_var rfl (.int _)) ed_int) (ed_var rfl (.int _)) (ed_neg ed_int) (by omega) (by omega)) fun _ _ _ => trivial) (fun t d v' H5 s5 hd q5 => turn_name rfl et_yes fun _ => ?_) (by rw [dwnD_len]; omega)) (el_lst (ea_cons (ed_tup (ea_cons (ed_var rfl (.str _)) (ea_cons (ed_var rfl (.int _)) ea_nil)) (le_line (by simp))) ea_nil) (le_line (by simp))) ?_
      · exact ed_tup (ea_cons ed_str (ea_cons (ed_var rfl q5) ea_nil)) (le_line (by simp))
      · rw [List.length_map, filt, dwnD_len]
        exact le_line (by simp only [List.length_cons, List.length_nil]; omega)
    have s34 := s3.trans s4
    have tc4 := tc.up s34
    dsimp only
    refine k_set (K := K) (d := encCi c2) (ed_ix (ds := [encCi c2, .int (-1)]) (ed_is (ed_call (ds := [encCi ci, .tuple ((gather (fitW m) i j).map sd)]) (ea_cons (ed_var rfl tc4) (ea_cons (ed_tupV hfp tf (ev_var rfl)) ea_nil)) ⟨W, ci, _, hW, hci, fun xs hxs => ?_, rfl, rfl⟩) ?_) ed_int rfl) fun cv2 H5 s5 q5 => ?_
    · injection hxs with hxs
      subst hxs
      refine ⟨by rw [List.length_map]; omega, fun y hy => ?_⟩
      obtain ⟨z, _, rfl⟩ := List.mem_map.mp hy
      exact std_sd z
    · show encA (applyF 0 ci ((gather (fitW m) i j).map sd)) = _
      rw [show ci = (ci.1, ci.2) from rfl, hc2]
      rfl
    have s35 := s34.trans s5
    have hfl : fv.length ≤ 20 := by
      rw [tf.len, List.length_map]
      exact glen
    have hwl : ws.length ≤ 400 := by
      rw [tw.len, List.length_map]
      omega
    dsimp only
    refine k_extend (s35 _ _ hp') (s5 _ _ hfp) (ev_var rfl) (ev_var rfl) (by omega) fun H6 s6 => ?_
    have s36 := s35.trans s6
    have wl : Wx H6 (upd H6 p (.lst (ws ++ fv))) := wx_lst (s36 _ _ hp')
    have s7 : Same H (upd H6 p (.lst (ws ++ fv))) := same_mut (s1.trans s36) np
    have hp7 : upd H6 p (.lst (ws ++ fv)) p = some (.lst (ws ++ fv)) := upd_same
    have tw7 : TDs K (upd H6 p (.lst (ws ++ fv))) (ws ++ fv) ((ss ++ gather (fitW m) i j).map sd) := by
      rw [List.map_append]
      exact ((tw.up s36).w wl).app ((tf.up (s5.trans s6)).w wl)
    have tc7 : TD K (upd H6 p (.lst (ws ++ fv))) cv2 (.tuple [.int c2.1, encGs c2.2]) := (q5.up s6).w wl
    generalize upd H6 p (.lst (ws ++ fv)) = H7 at wl s7 hp7 tw7 tc7
    apply k_at
    obtain ⟨hc2', _, _⟩ := applyF_ok hci hc2
    have hc2g : c2.2.length < ci.2.length := hlt
    refine k_setR (R := R_pair m [encGs c2.2]) (edr_callP (ed_ix (ed_var rfl tc7) ed_int rfl) (ev_var rfl) ea_nil hS ⟨c2.2, by omega, gsm hc2', rfl⟩) fun pv2 pd2 H8 s8 q8 r8 => ?_
    refine k_mid fun H9 s9 => ⟨c2.2.length, hc2g, cv2, pv2, pd2, _, _, _, ss ++ gather (fitW m) i j, c2, ws ++ fv, rfl, s7.trans (s8.trans s9), (s8.trans s9) _ _ hp7, tw7.up (s8.trans s9), tc7.up (s8.trans s9), q8.up s9, r8, ?_, ?_, rfl⟩
    · rw [List.map_append, applyF_app _ hap]
      exact applyF_shift _ hc2
    · rw [List.length_append]
      omega
  · refine k_ret (K := K) (d := .tuple (ss.map sd)) (ed_tupV hp' tw (ev_var rfl)) fun v H3 s3 q3 => q v _ H3 (s1.trans s3) q3 fun c0 e0 => ?_
    injection e0 with e0
    rw [← encCi_inj e0]
    exact ⟨ss, ci, rfl, hap, hle⟩
end
end Bk

set_option Elab.async false
set_option linter.all false
set_option maxRecDepth 100000
set_option maxHeartbeats 4000000
namespace Bk
open PySem PySem.Spec PyProof.Rows L2

local macro_rules | `(tactic| walk_at "ed") => `(tactic| first
  | assumption
  | exact ed_int | exact ed_bl | exact ed_non | exact ed_str | exact ea_nil | exact ep_none | exact et_yes
  | (apply ed_var rfl; assumption)
  | (apply ea_cons; walk_at "ed"; walk_at "ed")
  | (apply ed_ix; walk_at "ed"; walk_at "ed"; rfl)
  | (apply et_B; walk_at "ed")
  | (apply et_T; walk_at "ed")
  | (apply ed_tup; walk_at "ed"; (apply le_line; simp only [List.length_cons, List.length_nil]; omega))
  | (apply ed_eqI; walk_at "ed"; walk_at "ed")
  | (apply ed_neI; walk_at "ed"; walk_at "ed")
  | (apply ed_eqS; walk_at "ed"; walk_at "ed")
  | (apply ed_neS; walk_at "ed"; walk_at "ed")
  | (apply ed_I0; walk_at "ed"; walk_at "ed")
  | (apply ed_B0; walk_at "ed"; walk_at "ed")
  | (apply ed_neg; walk_at "ed")
  | (apply ed_isN; walk_at "ed")
  | (apply ed_notN; walk_at "ed")
  | (apply ed_lenT; walk_at "ed")
  | (apply ep_some; walk_at "ed")
  | (apply ed_sl; walk_at "ed"; walk_at "ed"; walk_at "ed")
  | (apply el_lst; walk_at "ed"; (apply le_line; simp only [List.length_cons, List.length_nil]; omega))
  | (apply ed_tupL; walk_at "ed")
  | (apply et_not; walk_at "ed")
  | (apply ed_notV; walk_at "ed")
  | (apply ed_isInt; walk_at "ed")
  | (apply ed_isBool; walk_at "ed")
  | (apply ed_isTup; walk_at "ed")
  | (apply ed_isStr; walk_at "ed")
  | (apply ed_andF; walk_at "ed"; rfl)
  | (apply ed_andT; walk_at "ed"; rfl; walk_at "ed")
  | (apply ed_orT; walk_at "ed"; rfl)
  | (apply ed_orF; walk_at "ed"; rfl; walk_at "ed")
  | (apply et_andF; walk_at "ed"; rfl)
  | (apply et_andT; walk_at "ed"; rfl; walk_at "ed")
  | (apply et_orT; walk_at "ed"; rfl)
  | (apply et_orF; walk_at "ed"; rfl; walk_at "ed")
  | (apply ed_andV; walk_at "ed"; (intro _; walk_at "ed"))
  | (apply ed_orV; walk_at "ed"; (intro _; walk_at "ed"))
  | (apply et_and; walk_at "ed"; (intro _; walk_at "ed"))
  | (apply et_or; walk_at "ed"; (intro _; walk_at "ed")))

section
variable {K : PySem.W.Frag} {mg : Str → Option Value}
theorem df_ne {x y : Str} {st st' : Stmt} {f : Addr} (D : Df K mg x st) (D' : Df K mg y st') (h : mg x = some (.ref f)) (h' : mg y = some (.ref f)) : x = y := by
  obtain ⟨f1, fd1, F1, m1⟩ := D.ex
  obtain ⟨f2, fd2, F2, m2⟩ := D'.ex
  rw [h] at m1
  rw [h'] at m2
  cases m1
  cases m2
  obtain ⟨oc, od, dV, kV, doc, pm, an, cdv, ct, osl, rfl, lk, _⟩ := F1.ex
  obtain ⟨oc', od', dV', kV', doc', pm', an', cdv', ct', osl', rfl, lk', _⟩ := F2.ex
  rw [lk] at lk'
  injection lk' with e
  injection e with _ _ e _
  injection e with e
  exact congrArg FuncData.name e
theorem twoS_fst {x y : Str} {f : Addr} (h : mg x = some (.ref f)) : twoS mg x y f = some true := by
  unfold twoS
  rw [if_pos (isAt_iff.mpr h)]
theorem twoS_snd {x y : Str} {st st' : Stmt} {f : Addr} (D : Df K mg x st) (D' : Df K mg y st') (ne : x ≠ y) (h : mg y = some (.ref f)) : twoS mg x y f = some false := by
  unfold twoS
  rw [if_neg (fun z => ne (df_ne D D' (isAt_iff.mp z) h)), if_pos (isAt_iff.mpr h)]
theorem k_forV {H : Hp} {σ : L2.St} {tl : TE} {g : TG} {tu : TS} {D : Ends} {vs : List V} (hl : ∀ H1, Same H H1 → ∀ Q : VK, (∀ p H2, Same H1 H2 → PT H2 p vs → Q (.ref p) H2) → tl σ H1 Q)
    (h : ∀ Hs, Same H Hs → ∃ Pv : Nat → L2.St → Hp → Prop, Pv 0 σ Hs ∧ (∀ i σ' H', Pv i σ' H' → Same Hs H') ∧
      (∀ i v σ' H', vs[i]? = some v → Pv i σ' H' → g v σ' H' fun σ2 H2 => tu { D with nx := Pv (i + 1), ct := Pv (i + 1), bk := D.nx } σ2 H2) ∧ (∀ σ' H', Pv vs.length σ' H' → D.nx σ' H')) : KP (tFor (iTup K tl) g tu D) σ H := fun H1 a =>
  hl H1 a _ fun p H2 s2 pt => by
    obtain ⟨Pv, p0, pR, ps, pd⟩ := h H2 (a.trans s2)
    exact ⟨p, rfl, ⟨vs, pt.sq⟩, for_tup Pv p0 (fun i σ' H' _ q => (wx_t (wx_same (pR i σ' H' q)) pt).sq) ps pd⟩
end
section
variable {P : Program} {w : World} {K : PySem.W.Frag} {mg : Str → Option Value} {base : Heap}
def D_work (ds : List PyData) : Prop := ∃ (W : Int) (c : Circ), W ≤ 6 ∧ CS W c ∧ c.2.length ≤ 20 ∧ ds = [encCi c]
def R_work (ds : List PyData) (d : PyData) : Prop := ∀ c, ds = [encCi c] → Gath c d
abbrev Ncancelling : List Str := ["circuit"]
theorem sccancelling : FnScope Ncancelling ["circuit"] (defScope scancelling) := ⟨rfl, rfl, rfl, by decide +kernel, rfl, by decide +kernel, by decide +kernel⟩
theorem ok_cancelling (T : Fx mg) (D : Df K mg "cancelling" scancelling) (Da : Df K mg "same_gate" ssame_gate) (c_gathered : Cl P w K mg base 6 "gathered" (spP K (fitS mg) 3 D_gath R_gath)) : Cl P w K mg base 7 "cancelling" (spR K 1 D_work R_work) := by
  refine cl_mk D sccancelling (fun _ _ _ _ h => h.1) (fun _ _ _ _ _ _ us hl => match us, hl with | [_], _ => rfl) ?_
  intro f cdv A outer s H vs Q E hr h
  obtain ⟨hl, ds, ht, hD, q⟩ := h
  obtain ⟨W, c, hW, hc, hcl, rfl⟩ := hD
  obtain ⟨v1, rfl, h1⟩ := ht.one
  obtain ⟨a_same_gate, fd, F, g_same_gate⟩ := Da.ex
  refine ⟨_, (pss_one (ps_ret (pe_cl c_gathered hr (by omega) (by rfl) (pa_cons (pv 0) (pa_cons (pe_glob (v := .ref a_same_gate) (by rfl) g_same_gate rfl) (pa_cons pe_str pa_nil)))))), ?_⟩
  refine k_at ?_
  show KP _ [some v1] H
  refine k_retR (R := R_gath true [encCi c, .str (fitW true).name]) (edr_callP (ed_var rfl h1) ev_c (ea_cons ed_str ea_nil) (twoS_fst g_same_gate) ⟨W, c, hW, hc, hcl, rfl⟩) fun v d H1 s1 q1 r1 => q v d H1 s1 q1 fun c' e => r1 c' ?_
  injection e with e
  rw [encCi_inj e]
abbrev Nmerging : List Str := ["circuit"]
theorem scmerging : FnScope Nmerging ["circuit"] (defScope smerging) := ⟨rfl, rfl, rfl, by decide +kernel, rfl, by decide +kernel, by decide +kernel⟩
theorem ok_merging (T : Fx mg) (D : Df K mg "merging" smerging) (Da : Df K mg "same_gate" ssame_gate) (Db : Df K mg "can_merge" scan_merge) (c_gathered : Cl P w K mg base 6 "gathered" (spP K (fitS mg) 3 D_gath R_gath)) : Cl P w K mg base 7 "merging" (spR K 1 D_work R_work) := by
  refine cl_mk D scmerging (fun _ _ _ _ h => h.1) (fun _ _ _ _ _ _ us hl => match us, hl with | [_], _ => rfl) ?_
  intro f cdv A outer s H vs Q E hr h
  obtain ⟨hl, ds, ht, hD, q⟩ := h
  obtain ⟨W, c, hW, hc, hcl, rfl⟩ := hD
  obtain ⟨v1, rfl, h1⟩ := ht.one
  obtain ⟨a_can_merge, fd, F, g_can_merge⟩ := Db.ex
  refine ⟨_, (pss_one (ps_ret (pe_cl c_gathered hr (by omega) (by rfl) (pa_cons (pv 0) (pa_cons (pe_glob (v := .ref a_can_merge) (by rfl) g_can_merge rfl) (pa_cons pe_str pa_nil)))))), ?_⟩
  refine k_at ?_
  show KP _ [some v1] H
  refine k_retR (R := R_gath false [encCi c, .str (fitW false).name]) (edr_callP (ed_var rfl h1) ev_c (ea_cons ed_str ea_nil) (twoS_snd Da Db (by decide +kernel) g_can_merge) ⟨W, c, hW, hc, hcl, rfl⟩) fun v d H1 s1 q1 r1 => q v d H1 s1 q1 fun c' e => r1 c' ?_
  injection e with e
  rw [encCi_inj e]
theorem eo_str (x : Str) (h : PyData.strOk x = true) : EqOk 0 (.str x) := ⟨rfl, by simp [PyData.canLay0, h], by simp [PyData.depth]⟩
theorem name_ok (wd : Wd) : PyData.strOk wd.name = true := by cases wd <;> decide +kernel
theorem eo_sd (s : Wd × Nat) : EqOk 1 (sd s) := eo_tup fun d hd => by
  rcases List.mem_cons.mp hd with rfl | hd
  · exact eo_str _ (name_ok _)
  rcases List.mem_cons.mp hd with rfl | hd
  · exact eo_int _
  · cases hd
theorem eo_sds (ss : List (Wd × Nat)) : EqOk 2 (.tuple (ss.map sd)) := eo_map ss fun s _ => eo_sd s
theorem edr_callA {σ : L2.St} {H : Hp} {i : Nat} {S : Addr → Option Sp} {f : Addr} {n : Nat} {Dm : List PyData → Prop} {R : List PyData → PyData → Prop} {tr : TA} {ds : List PyData} (hs : σ[i]? = some (some (.ref f))) (hS : S f = some (spR K n Dm R)) (h : EA K tr σ H ds) (hD : Dm ds) (hn : ds.length = n := by rfl) : EDR K (tCallA i S tr) σ H (R ds) := fun H1 s Q k =>
  ⟨f, _, hs, hS, h H1 s _ fun vs H2 s2 q => ⟨by rw [q.len]; exact hn, ds, q, hD, fun v d H3 s3 r x => k v d H3 (s2.trans s3) r x⟩⟩
def R_shr (ds : List PyData) (d : PyData) : Prop := ∀ c, ds = [encCi c] → ∃ (ss : List (Wd × Nat)) (c' : Circ), d = .tuple [encCi c', .tuple (ss.map sd)] ∧ applyF 0 c (ss.map sd) = (some c', -1) ∧ ss.length + 20 * c'.2.length ≤ 20 * c.2.length
abbrev Nshrink : List Str := ["circuit", "steps", "changed", "work", "found"]
theorem scshrink : FnScope Nshrink ["circuit"] (defScope sshrink) := ⟨rfl, rfl, rfl, by decide +kernel, rfl, by decide +kernel, by decide +kernel⟩
theorem ok_shrink (T : Fx mg) (D : Df K mg "shrink" sshrink) (Da : Df K mg "cancelling" scancelling) (Db : Df K mg "merging" smerging) (c_apply_steps : Cl P w K mg base 5 "apply_steps" (spF K 2 R_steps)) (c_canc : Cl P w K mg base 7 "cancelling" (spR K 1 D_work R_work)) (c_merg : Cl P w K mg base 7 "merging" (spR K 1 D_work R_work)) : Cl P w K mg base 8 "shrink" (spR K 1 D_work R_shr) := by
  refine cl_mk D scshrink (fun _ _ _ _ h => h.1) (fun _ _ _ _ _ _ us hl => match us, hl with | [_], _ => rfl) ?_
  intro f cdv A outer s H vs Q E hr h
  obtain ⟨hl, ds, ht, hD, q⟩ := h
  obtain ⟨W, c, hW, hc, hcl, rfl⟩ := hD
  obtain ⟨v1, rfl, h1⟩ := ht.one
  obtain ⟨a_cancelling, fd1, F1, g_cancelling⟩ := Da.ex
  obtain ⟨a_merging, fd2, F2, g_merging⟩ := Db.ex
  have hA := two_held (sp := fun _ => spR K 1 D_work R_work) c_canc c_merg
  refine ⟨_, (pss_cons (ps_set (i := 1) scshrink.nd rfl (.inl rfl) (pe_tupP pa_nil))
      (pss_cons (ps_set (i := 2) scshrink.nd rfl (.inl rfl) pe_bl)
      (pss_cons (ps_while PassesOwn.never (pt_val (pv 2)) (pss_cons (ps_set (i := 2) scshrink.nd rfl (.inl rfl) pe_bl)
        (pss_one (ps_for PassesOwn.never rfl (kp_tup (K := K) (pe_tupP (pa_cons (pe_glob (v := .ref a_cancelling) (by rfl) g_cancelling rfl) (pa_cons (pe_glob (v := .ref a_merging) (by rfl) g_merging rfl) pa_nil)))) (pg_name (i := 3) scshrink.nd rfl (.inl rfl)) (pss_cons (ps_set (i := 4) scshrink.nd rfl (.inl rfl) (pe_callA (i := 3) hA (hr.mono (by decide)) rfl (by first | exact .inl rfl | exact .inr (.inl rfl) | exact .inr (.inr rfl)) (pa_cons (pv 0) pa_nil)))
          (pss_one (ps_if (pt_cmpR (ko_neD (K := K) hr.units) (pv 4) (pe_tupP pa_nil) (nomark _)) (pss_cons (ps_set (i := 0) scshrink.nd rfl (.inl rfl) (pe_ix (kx_tup (K := K)) (pe_cl c_apply_steps hr (by omega) (by rfl) (pa_cons (pv 0) (pa_cons (pv 4) pa_nil))) pe_int (fun _ _ => rfl)))
            (pss_cons (ps_set (i := 1) scshrink.nd rfl (.inl rfl) (pe_op (ko_cat (K := K)) (pv 1) (pv 4)))
            (pss_one (ps_set (i := 2) scshrink.nd rfl (.inl rfl) pe_bl)))) pss_nil)))))))
      (pss_one (ps_ret (pe_tupP (pa_cons (pv 0) (pa_cons (pv 1) pa_nil)))))))), ?_⟩
  refine k_at ?_
  show KP _ [some v1, none, none, none, none] H
  have hS : ∀ (t : Nat) (v : V), [V.ref a_cancelling, V.ref a_merging][t]? = some v → ∃ fa, v = .ref fa ∧ twoSp mg "cancelling" "merging" (fun _ => spR K 1 D_work R_work) fa = some (spR K 1 D_work R_work) := fun t v h => by
    match t, h with
    | 0, h =>
      cases h
      refine ⟨_, rfl, ?_⟩
      unfold twoSp
      rw [twoS_fst g_cancelling]
      rfl
    | 1, h =>
      cases h
      refine ⟨_, rfl, ?_⟩
      unfold twoSp
      rw [twoS_snd Da Db (by decide +kernel) g_merging]
      rfl
    | n + 2, h => cases h
  refine k_set (K := K) (d := .tuple []) (ed_tup ea_nil) fun sv H1 e1 q1 => ?_
  dsimp only
  refine k_set (K := K) (d := .bool true) ed_bl fun bv H2 e2 q2 => ?_
  cases q2.bl_eq
  have e12 := e1.trans e2
  dsimp only
  refine k_seq (k_while (fun mm σ' H' => ∃ cv sv b x3 x4 ss ci, σ' = [some cv, some sv, some (.bl b), x3, x4] ∧ Same H H' ∧ TD K H' cv (encCi ci) ∧ TD K H' sv (.tuple (ss.map sd)) ∧ applyF 0 c (ss.map sd) = (some ci, -1) ∧ ss.length + 20 * ci.2.length ≤ 20 * c.2.length ∧ mm = if b then ci.2.length + 1 else 0)
    (c.2.length + 1) (fun H3 s3 => ⟨v1, sv, true, none, none, [], c, rfl, e12.trans s3, h1.up (e12.trans s3), q1.up (e2.trans s3), rfl, by simp, rfl⟩) fun mm σ' H' h => ?_)
  obtain ⟨cv, sv, b, x3, x4, ss, ci, rfl, s1, tc, ts, hap, hle, rfl⟩ := h
  refine ⟨b, et_B (K := K) (ed_var rfl (.bl b)), fun hb => ?_, fun hb => ?_⟩
  · subst hb
    refine k_set (K := K) (d := .bool false) ed_bl fun bv H3 e3 q3 => ?_
    cases q3.bl_eq
    dsimp only
    refine k_forV (vs := [.ref a_cancelling, .ref a_merging]) (fun H4 _ Q' k => ⟨le_line (by simp), fun p o np no => k _ _ (same_new np) (pt_new no)⟩) fun Hs s4 => ?_
    refine ⟨fun t σ' H'' => ∃ cv sv b x3 x4 ss c', σ' = [some cv, some sv, some (.bl b), x3, x4] ∧ Same Hs H'' ∧ TD K H'' cv (encCi c') ∧ TD K H'' sv (.tuple (ss.map sd)) ∧ applyF 0 c (ss.map sd) = (some c', -1) ∧ ss.length + 20 * c'.2.length ≤ 20 * c.2.length ∧ (b = true → c'.2.length < ci.2.length) ∧ c'.2.length ≤ ci.2.length,
      ⟨cv, sv, false, x3, x4, ss, ci, rfl, Same.refl _, tc.up (e3.trans s4), ts.up (e3.trans s4), hap, hle, (fun h => by cases h), Nat.le_refl _⟩, fun t σ' H'' h => ?_, fun t v σ' H'' hv h => ?_, fun σ' H'' h => ?_⟩
    · obtain ⟨_, _, _, _, _, _, _, _, h, _⟩ := h
      exact h
    · obtain ⟨fa, rfl, hfa⟩ := hS t v hv
      obtain ⟨cv, sv, b, x3, x4, ss, c1, rfl, s5, tc, ts, hap, hle, hb1, hb2⟩ := h
      obtain ⟨hc1, _, _⟩ := applyF_ok hc hap
      refine k_name ?_
      dsimp only
      refine k_setR (R := R_work [encCi c1]) (edr_callA rfl hfa (ea_cons (ed_var rfl tc) ea_nil) ⟨W, c1, hW, hc1, by omega, rfl⟩) fun fv fd H6 s6 q6 r6 => ?_
      obtain ⟨fs, c2, rfl, hap2, hle2⟩ := r6 c1 rfl
      obtain ⟨hc2, _, _⟩ := applyF_ok hc1 hap2
      dsimp only
      refine k_if1 (b := !(fs.map sd).isEmpty) (et_T (K := K) (ed_is (ed_neE (n := 2) (ed_var rfl q6) (ed_tup ea_nil) (eo_sds fs) ((eo_tup (n := 0) (ds := []) fun d hd => by cases hd).up)) (by rw [eqv_nilT]))) (fun hb => ?_) (fun hb => ?_)
      · have hne : fs ≠ [] := fun z => by rw [z] at hb; cases hb
        have hpos : 0 < fs.length := List.length_pos_iff.mpr hne
        refine k_set (K := K) (d := encCi c2) (ed_ix (ds := [encCi c2, .int (-1)]) (ed_is (ed_call (ds := [encCi c1, .tuple (fs.map sd)]) (ea_cons (ed_var rfl (tc.up s6)) (ea_cons (ed_var rfl q6) ea_nil)) ⟨W, c1, _, hW, hc1, fun xs hxs => ?_, rfl, rfl⟩) ?_) ed_int rfl) fun cv2 H7 s7 q7 => ?_
        · injection hxs with hxs
          subst hxs
          refine ⟨by rw [List.length_map]; omega, fun y hy => ?_⟩
          obtain ⟨z, _, rfl⟩ := List.mem_map.mp hy
          exact std_sd z
        · show encA (applyF 0 c1 (fs.map sd)) = _
          rw [hap2]
          rfl
        dsimp only
        refine k_set (K := K) (d := .tuple ((ss ++ fs).map sd)) (ed_is (ed_cat (ed_var rfl (ts.up (s6.trans s7))) (ed_var rfl (q6.up s7)) (by rw [List.length_map, List.length_map]; exact le_line (by omega))) (by rw [List.map_append])) fun sv2 H8 s8 q8 => ?_
        dsimp only
        refine k_set (K := K) (d := .bool true) ed_bl fun bv H9 s9 q9 => ?_
        cases q9.bl_eq
        refine k_mid fun H10 s10 => ⟨cv2, sv2, true, _, _, ss ++ fs, c2, rfl, s5.trans (s6.trans (s7.trans (s8.trans (s9.trans s10)))), q7.up (s8.trans (s9.trans s10)), q8.up (s9.trans s10), ?_, ?_, fun _ => by omega, by omega⟩
        · rw [List.map_append, applyF_app _ hap]
          exact applyF_shift _ hap2
        · rw [List.length_append]
          omega
      · exact k_mid fun H7 s7 => ⟨cv, sv, b, _, _, ss, c1, rfl, s5.trans (s6.trans s7), tc.up (s6.trans s7), ts.up (s6.trans s7), hap, hle, hb1, hb2⟩
    · obtain ⟨cv, sv, b, x3, x4, ss, c1, rfl, s5, tc, ts, hap, hle, hb1, hb2⟩ := h
      refine ⟨if b then c1.2.length + 1 else 0, ?_, cv, sv, b, x3, x4, ss, c1, rfl, s1.trans (e3.trans (s4.trans s5)), tc, ts, hap, hle, rfl⟩
      cases b with
      | true =>
        have := hb1 rfl
        show c1.2.length + 1 < ci.2.length + 1
        omega
      | false =>
        show 0 < ci.2.length + 1
        omega
  · refine k_ret (K := K) (d := .tuple [encCi ci, .tuple (ss.map sd)]) (ed_tup (ea_cons (ed_var rfl tc) (ea_cons (ed_var rfl ts) ea_nil)) (le_line (by simp))) fun v H3 s3 q3 => q v _ H3 (s1.trans s3) q3 fun c0 e0 => ?_
    injection e0 with e0
    rw [← encCi_inj e0]
    exact ⟨ss, ci, rfl, hap, hle⟩
end
end Bk

set_option Elab.async false
set_option linter.all false
set_option maxRecDepth 100000
set_option maxHeartbeats 4000000
namespace Bk
open PySem PySem.Spec PyProof.Rows L2

local macro_rules | `(tactic| walk_at "ed") => `(tactic| first
  | assumption
  | exact ed_int | exact ed_bl | exact ed_non | exact ed_str | exact ea_nil | exact ep_none | exact et_yes
  | (apply ed_var rfl; assumption)
  | (apply ea_cons; walk_at "ed"; walk_at "ed")
  | (apply ed_ix; walk_at "ed"; walk_at "ed"; rfl)
  | (apply et_B; walk_at "ed")
  | (apply et_T; walk_at "ed")
  | (apply ed_tup; walk_at "ed"; (apply le_line; simp only [List.length_cons, List.length_nil]; omega))
  | (apply ed_eqI; walk_at "ed"; walk_at "ed")
  | (apply ed_neI; walk_at "ed"; walk_at "ed")
  | (apply ed_eqS; walk_at "ed"; walk_at "ed")
  | (apply ed_neS; walk_at "ed"; walk_at "ed")
  | (apply ed_I0; walk_at "ed"; walk_at "ed")
  | (apply ed_B0; walk_at "ed"; walk_at "ed")
  | (apply ed_neg; walk_at "ed")
  | (apply ed_isN; walk_at "ed")
  | (apply ed_notN; walk_at "ed")
  | (apply ed_lenT; walk_at "ed")
  | (apply ep_some; walk_at "ed")
  | (apply ed_sl; walk_at "ed"; walk_at "ed"; walk_at "ed")
  | (apply el_lst; walk_at "ed"; (apply le_line; simp only [List.length_cons, List.length_nil]; omega))
  | (apply ed_tupL; walk_at "ed")
  | (apply et_not; walk_at "ed")
  | (apply ed_notV; walk_at "ed")
  | (apply ed_isInt; walk_at "ed")
  | (apply ed_isBool; walk_at "ed")
  | (apply ed_isTup; walk_at "ed")
  | (apply ed_isStr; walk_at "ed")
  | (apply ed_andF; walk_at "ed"; rfl)
  | (apply ed_andT; walk_at "ed"; rfl; walk_at "ed")
  | (apply ed_orT; walk_at "ed"; rfl)
  | (apply ed_orF; walk_at "ed"; rfl; walk_at "ed")
  | (apply et_andF; walk_at "ed"; rfl)
  | (apply et_andT; walk_at "ed"; rfl; walk_at "ed")
  | (apply et_orT; walk_at "ed"; rfl)
  | (apply et_orF; walk_at "ed"; rfl; walk_at "ed")
  | (apply ed_andV; walk_at "ed"; (intro _; walk_at "ed"))
  | (apply ed_orV; walk_at "ed"; (intro _; walk_at "ed"))
  | (apply et_and; walk_at "ed"; (intro _; walk_at "ed"))
  | (apply et_or; walk_at "ed"; (intro _; walk_at "ed")))

section
variable {P : Program} {w : World} {K : PySem.W.Frag} {mg : Str → Option Value} {base : Heap}
def bitsOf (n : Int) (W : Nat) : List Int := (List.range W).map fun k => Builtin.bitAnd (n / 2 ^ k) 1
theorem bit_two (i : Int) : Builtin.bitAnd i 1 = 0 ∨ Builtin.bitAnd i 1 = 1 := by
  have h := PySem.W.kbt_mask i 1
  rw [show ((2 : Int) ^ 1 - 1) = 1 from rfl, show ((2 : Int) ^ 1) = 2 from rfl] at h
  rw [h]
  omega
theorem bitsOf_ok (n : Int) (W : Nat) : BOk W (bitsOf n W) := by
  refine ⟨by unfold bitsOf; rw [List.length_map, List.length_range], fun w => ?_⟩
  unfold at' bitsOf
  rw [List.getD_eq_getElem?_getD, List.getElem?_map]
  cases h : (List.range W)[w.toNat]? with
  | none => exact .inl rfl
  | some k => exact bit_two _
theorem ed_shr {σ : L2.St} {H : Hp} {ta tb : TE} {i : Int} {k : Nat} (ha : ED K ta σ H (.int i)) (hb : ED K tb σ H (.int k)) : ED K (tOp (rI (fun _ j => 0 ≤ j) fun i j => V.int (i / 2 ^ j.toNat)) ta tb) σ H (.int (i / 2 ^ k)) := ed_is (ed_I (g := fun i j => i / 2 ^ j.toNat) ha hb (by omega)) (by rw [Int.toNat_natCast])
theorem ed_shl {σ : L2.St} {H : Hp} {ta tb : TE} {i : Int} {k : Nat} (ha : ED K ta σ H (.int i)) (hb : ED K tb σ H (.int k)) (h : CPow i k) : ED K (tOp (rI CPow fun i j => V.int (i * 2 ^ j.toNat)) ta tb) σ H (.int (i * 2 ^ k)) := ed_is (ed_I (g := fun i j => i * 2 ^ j.toNat) ha hb h) (by rw [Int.toNat_natCast])
def R_bits (ds : List PyData) (d : PyData) : Prop := ∃ (n : Int) (W : Nat), W ≤ 6 ∧ ds = [.int n, .int W] ∧ d = .tuple ((bitsOf n W).map PyData.int)
theorem el_bits {σ : L2.St} {H : Hp} {a b c : Nat} {n : Int} {W : Nat} (hW : W ≤ 6) (ha : σ[a]? = some (some (.int n))) (hb : σ[b]? = some (some (.int W))) (ac : a ≠ c) (hc : c < σ.length) (hn : σ[c]? = some none) :
    EL K (tLc (iRng1 (tCons (tVar b) tNil)) (gName c) tYes (tOp (rI0 fun i j => V.int (Builtin.bitAnd i j)) (tOp (rI (fun _ j => 0 ≤ j) fun i j => V.int (i / 2 ^ j.toNat)) (tVar a) (tVar c)) (tC (V.int 1))) [c]) σ H ((bitsOf n W).map PyData.int) := by
  have e : (bitsOf n W).map PyData.int = ((rngD W).filter fun _ => true).map fun d => match d with | .int k => .int (Builtin.bitAnd (n / 2 ^ k.toNat) 1) | x => x := by
    rw [filt]
    unfold bitsOf rngD
    rw [List.map_map, List.map_map]
    rfl
  rw [e]
  have hw : wipe σ [c] = σ := by
    show σ.set c none = σ
    have := List.set_getElem_self (as := σ) hc
    rw [List.getElem?_eq_getElem hc] at hn
    rw [Option.some.inj hn] at this
    exact this
  refine el_lc (fun _ => true) _ (wd_mono (wd_rng (n := W) (ed_var hb (.int _)) (by omega)) fun _ _ _ => trivial) (fun i d v H' s hd q => ?_) (by rw [rngD_len]; omega)
  have hi : i < W := by
    obtain ⟨h, _⟩ := List.getElem?_eq_some_iff.mp hd
    rw [rngD_len] at h
    exact h
  rw [rngD_at hi] at hd
  cases hd
  rw [hw]
  refine turn_name ?_ et_yes fun _ => ?_
  · show (σ.set c (some v)).set c none = σ
    rw [List.set_set]
    exact hw
  · exact ed_I0 (ed_shr (ed_var (by rw [List.getElem?_set_ne ac.symm]; exact ha) (.int _)) (ed_var (List.getElem?_set_self hc) q)) ed_int
abbrev Nas_bits : List Str := ["number", "wires", "k"]
theorem scas_bits : FnScope Nas_bits ["number", "wires"] (defScope sas_bits) := ⟨rfl, rfl, rfl, by decide +kernel, rfl, by decide +kernel, by decide +kernel⟩
theorem ok_as_bits (T : Fx mg) (D : Df K mg "as_bits" sas_bits) : Cl P w K mg base 1 "as_bits" (spF K 2 R_bits) := by
  refine cl_F D scas_bits rfl (fun _ _ _ _ _ _ us hl => match us, hl with | [_, _], _ => rfl) ?_
  intro f cdv A outer s H vs Q E ds d hr ht hR q
  obtain ⟨n, W, hW, rfl, rfl⟩ := hR
  obtain ⟨v1, v2, rfl, h1, h2⟩ := ht.two
  cases h1.int_eq
  cases h2.int_eq
  refine ⟨_, (pss_one (ps_ret (pe_callTy (kc_tup (K := K)) (by rfl) T.tuple bt_tuple (pa_cons (pe_lc (own := [("k", 2)]) (g := gName 2) (tt := tYes) rfl scas_bits.nd (pi_range1 (by rfl) T.range (pa_cons (pv 1) pa_nil)) (blkOk_by (own := [("k", 2)]) (N := Nas_bits) (sc := defScope sas_bits) (by decide +kernel)) (fun _ _ _ _ _ => (pg_name (i := 2) scas_bits.nd rfl (.inl rfl))) (fun _ _ _ _ _ => pts_nil) (fun _ _ _ _ _ => (pe_op op_and (pe_op op_shr (pv 0) (pv 2)) pe_int))) pa_nil)))), ?_⟩
  show KP _ [some (.int n), some (.int W), none] H
  exact k_ret (K := K) (d := .tuple ((bitsOf n W).map PyData.int)) (ed_tupL (el_bits hW rfl rfl (by decide) (by simp) rfl)) fun v H1 s1 q1 => q v H1 s1 q1
abbrev NL_bits : List Str := ["_law_number", "_law_wires", "_law_k"]
theorem scL_bits : FnScope NL_bits ["_law_number", "_law_wires"] (defScope sL_bits) := ⟨rfl, rfl, rfl, by decide +kernel, rfl, by decide +kernel, by decide +kernel⟩
theorem ok_L_bits (T : Fx mg) (D : Df K mg "_law_bits" sL_bits) : Cl P w K mg base 1 "_law_bits" (spF K 2 R_bits) := by
  refine cl_F D scL_bits rfl (fun _ _ _ _ _ _ us hl => match us, hl with | [_, _], _ => rfl) ?_
  intro f cdv A outer s H vs Q E ds d hr ht hR q
  obtain ⟨n, W, hW, rfl, rfl⟩ := hR
  obtain ⟨v1, v2, rfl, h1, h2⟩ := ht.two
  cases h1.int_eq
  cases h2.int_eq
  refine ⟨_, (pss_one (ps_ret (pe_callTy (kc_tup (K := K)) (by rfl) T.tuple bt_tuple (pa_cons (pe_lc (own := [("_law_k", 2)]) (g := gName 2) (tt := tYes) rfl scL_bits.nd (pi_range1 (by rfl) T.range (pa_cons (pv 1) pa_nil)) (blkOk_by (own := [("_law_k", 2)]) (N := NL_bits) (sc := defScope sL_bits) (by decide +kernel)) (fun _ _ _ _ _ => (pg_name (i := 2) scL_bits.nd rfl (.inl rfl))) (fun _ _ _ _ _ => pts_nil) (fun _ _ _ _ _ => (pe_op op_and (pe_op op_shr (pv 0) (pv 2)) pe_int))) pa_nil)))), ?_⟩
  show KP _ [some (.int n), some (.int W), none] H
  exact k_ret (K := K) (d := .tuple ((bitsOf n W).map PyData.int)) (ed_tupL (el_bits hW rfl rfl (by decide) (by simp) rfl)) fun v H1 s1 q1 => q v H1 s1 q1
theorem eqv_ints (a b : List Int) : PyData.eqv (.tuple (a.map PyData.int)) (.tuple (b.map PyData.int)) = decide (a = b) := eqv_map eqv_int a b
theorem eo_ints (a : List Int) : EqOk 1 (.tuple (a.map PyData.int)) := eo_map a fun i _ => eo_int i
/-- parting, of circuits that are the same map -/
def R_part (ds : List PyData) (d : PyData) : Prop := ∃ (W : Nat) (c c' : Circ), W ≤ 6 ∧ CS W c ∧ CS W c' ∧ c.2.length ≤ 1000 ∧ c'.2.length ≤ 1000 ∧ SameMap W c c' ∧ ds = [encCi c, encCi c'] ∧ d = .none
theorem two_pow_le {W : Nat} (h : W ≤ 6) : 2 ^ W ≤ 64 := Nat.pow_le_pow_right (by decide) h
abbrev Nparting : List Str := ["first", "second", "wires", "k", "bits"]
theorem scparting : FnScope Nparting ["first", "second"] (defScope sparting) := ⟨rfl, rfl, rfl, by decide +kernel, rfl, by decide +kernel, by decide +kernel⟩
theorem ok_parting (T : Fx mg) (D : Df K mg "parting" sparting) (c_as_bits : Cl P w K mg base 1 "as_bits" (spF K 2 R_bits)) (c_run_circuit : Cl P w K mg base 1 "run_circuit" (spF K 2 R_run)) : Cl P w K mg base 2 "parting" (spF K 2 R_part) := by
  refine cl_F D scparting rfl (fun _ _ _ _ _ _ us hl => match us, hl with | [_, _], _ => rfl) ?_
  intro f cdv A outer s H vs Q E ds d hr ht hR q
  obtain ⟨W, c, c', hW, hc, hc', hl, hl', hm, rfl, rfl⟩ := hR
  obtain ⟨v1, v2, rfl, h1, h2⟩ := ht.two
  refine ⟨_, (pss_cons (ps_set (i := 2) scparting.nd rfl (.inl rfl) (pe_ix (kx_tup (K := K)) (pv 0) pe_int (fun _ _ => rfl)))
      (pss_cons (ps_for PassesOwn.never rfl (pi_range1 (by rfl) T.range (pa_cons (pe_op op_shl pe_int (pv 2)) pa_nil)) (pg_name (i := 3) scparting.nd rfl (.inl rfl)) (pss_cons (ps_set (i := 4) scparting.nd rfl (.inl rfl) (pe_cl c_as_bits hr (by omega) (by rfl) (pa_cons (pv 3) (pa_cons (pv 2) pa_nil))))
        (pss_one (ps_if (pt_cmpR (ko_neD (K := K) hr.units) (pe_cl c_run_circuit hr (by omega) (by rfl) (pa_cons (pv 0) (pa_cons (pv 4) pa_nil))) (pe_cl c_run_circuit hr (by omega) (by rfl) (pa_cons (pv 1) (pa_cons (pv 4) pa_nil))) (nomark _)) (pss_one (ps_ret (pv 3))) pss_nil))))
      (pss_one (ps_ret pe_non)))), ?_⟩
  show KP _ [some v1, some v2, none, none, none] H
  have i1 : TD K H v1 (.tuple [.int c.1, encGs c.2]) := h1
  refine k_set (K := K) (d := .int W) (ed_is (ed_ix (ed_var rfl i1) ed_int rfl) (by rw [hc.w])) fun v3 H1 e1 q1 => ?_
  cases q1.int_eq
  dsimp only
  have hp := two_pow_le hW
  refine k_seq (k_for (K := K) (wd_rng (K := K) (n := 2 ^ W) (ed_is (ed_shl ed_int (ed_var rfl (.int _)) ?_) ?_) (by omega)) fun Hs s1 => ?_)
  · exact ⟨by omega, by omega, by decide⟩
  · rw [Int.one_mul, Int.natCast_pow]
    rfl
  refine ⟨fun i σ' H' => ∃ x y, σ' = [some v1, some v2, some (.int W), x, y] ∧ Same Hs H', ⟨none, none, rfl, Same.refl _⟩, fun _ _ _ _ => trivial, fun i d u σ' H' hd q2 h => ?_, fun σ' H' h => ?_⟩
  · have hi : i < 2 ^ W := by
      obtain ⟨h, _⟩ := List.getElem?_eq_some_iff.mp hd
      rw [rngD_len] at h
      exact h
    rw [rngD_at hi] at hd
    have hd' := (Option.some.inj hd).symm
    subst hd'
    have hu := q2.int_eq
    subst hu
    obtain ⟨x, y, rfl, s2⟩ := h
    refine k_name ?_
    dsimp only
    refine k_set (K := K) (d := .tuple ((bitsOf i W).map PyData.int)) (ed_call (ds := [.int i, .int W]) (ea_cons (ed_var rfl (.int _)) (ea_cons (ed_var rfl (.int _)) ea_nil)) ⟨i, W, hW, rfl, rfl⟩) fun v4 H4 s4 q4 => ?_
    have s5 := (e1.trans (s1.trans s2)).trans s4
    have bk := bitsOf_ok i W
    dsimp only
    refine k_if1 (b := false) (et_T (K := K) (ed_is (ed_neE (n := 1) (ed_call (ds := [encCi c, .tuple ((bitsOf i W).map PyData.int)]) (ea_cons (ed_var rfl (h1.up s5)) (ea_cons (ed_var rfl q4) ea_nil)) ⟨W, c, _, by omega, hc, hl, bk, rfl, rfl⟩)
      (ed_call (ds := [encCi c', .tuple ((bitsOf i W).map PyData.int)]) (ea_cons (ed_var rfl (h2.up s5)) (ea_cons (ed_var rfl q4) ea_nil)) ⟨W, c', _, by omega, hc', hl', bk, rfl, rfl⟩) (eo_ints _) (eo_ints _)) ?_)) (fun h => by cases h) (fun _ => ?_)
    · rw [eqv_ints, hm _ bk, decide_eq_true rfl]
      rfl
    · exact k_mid fun H5 s5 => ⟨_, _, rfl, s2.trans (s4.trans s5)⟩
  · obtain ⟨x, y, rfl, s2⟩ := h
    dsimp only
    apply k_at
    exact k_ret (K := K) (d := .none) ed_non fun v H3 s3 q3 => q v H3 (e1.trans (s1.trans (s2.trans s3))) q3
def valOf (b : List Int) : Int := ((List.range b.length).map fun k : Nat => at' b k * 2 ^ k).sum
def R_val (ds : List PyData) (d : PyData) : Prop := ∃ (W : Nat) (b : List Int), W ≤ 6 ∧ BOk W b ∧ ds = [.tuple (b.map PyData.int)] ∧ d = .int (valOf b)
abbrev NL_value : List Str := ["_law_bits_here", "_law_k"]
theorem scL_value : FnScope NL_value ["_law_bits_here"] (defScope sL_value) := ⟨rfl, rfl, rfl, by decide +kernel, rfl, by decide +kernel, by decide +kernel⟩
theorem ok_value (T : Fx mg) (D : Df K mg "_law_value" sL_value) : Cl P w K mg base 1 "_law_value" (spF K 1 R_val) := by
  refine cl_F D scL_value rfl (fun _ _ _ _ _ _ us hl => match us, hl with | [_], _ => rfl) ?_
  intro f cdv A outer s H vs Q E ds d hr ht hR q
  obtain ⟨W, b, hW, hb, rfl, rfl⟩ := hR
  obtain ⟨v1, rfl, h1⟩ := ht.one
  refine ⟨_, (pss_one (ps_ret (pe_callB (kc_sum (K := K) rfl) (by rfl) T.sum bt_sum (pa_cons (pe_lc (own := [("_law_k", 1)]) (g := gName 1) (tt := tYes) rfl scL_value.nd (pi_range1 (by rfl) T.range (pa_cons (pe_callB (kc_len (K := K)) (by rfl) T.len bt_len (pa_cons (pv 0) pa_nil)) pa_nil)) (blkOk_by (own := [("_law_k", 1)]) (N := NL_value) (sc := defScope sL_value) (by decide +kernel)) (fun _ _ _ _ _ => (pg_name (i := 1) scL_value.nd rfl (.inl rfl))) (fun _ _ _ _ _ => pts_nil) (fun _ _ _ _ _ => (pe_op op_shl (pe_ix (kx_tup (K := K)) (pv 0) (pv 1) (fun _ _ => rfl)) (pv 1)))) pa_nil)))), ?_⟩
  show KP _ [some v1, none] H
  have hlen : b.length = W := by
    have := hb.len
    omega
  have lb : (b.map PyData.int).length = b.length := List.length_map ..
  refine k_ret (K := K) (d := .int (valOf b)) (ed_sum (ns := (List.range b.length).map fun k : Nat => at' b k * 2 ^ k) ?_) fun v H1 s1 q1 => q v H1 s1 q1
  have e : ((List.range b.length).map fun k : Nat => at' b k * 2 ^ k).map PyData.int = ((rngD b.length).filter fun _ => true).map fun d => match d with | .int k => .int (at' b k * 2 ^ k.toNat) | x => x := by
    rw [filt]
    unfold rngD
    rw [List.map_map, List.map_map]
    rfl
  rw [e]
  refine el_lc (fun _ => true) _ (wd_mono (wd_rng (n := b.length) (ed_is (ed_lenT (ed_var rfl h1)) (by rw [lb])) (by omega)) fun _ _ _ => trivial) (fun i d v H' s hd q => ?_) (by rw [rngD_len]; omega)
  have hi : i < b.length := by
    obtain ⟨h, _⟩ := List.getElem?_eq_some_iff.mp hd
    rw [rngD_len] at h
    exact h
  rw [rngD_at hi] at hd
  cases hd
  refine turn_name rfl et_yes fun _ => ?_
  exact ed_shl (ed_ix (ed_var rfl (h1.up s)) (ed_var rfl q) (at_bits (by omega) (by omega))) (ed_var rfl q) ⟨by omega, by omega, by rcases hb.bit i with e | e <;> rw [e] <;> decide⟩
def mapOf (c : Circ) (W : Nat) : List Int := (List.range (2 ^ W)).map fun k : Nat => valOf (runL c.2 (bitsOf k W))
def R_map (ds es : List PyData) : Prop := ∃ (W : Nat) (c : Circ), W ≤ 6 ∧ CS W c ∧ ds = [encCi c] ∧ es = (mapOf c W).map PyData.int
abbrev NL_map : List Str := ["_law_circuit_here", "_law_k"]
theorem scL_map : FnScope NL_map ["_law_circuit_here"] (defScope sL_map) := ⟨rfl, rfl, rfl, by decide +kernel, rfl, by decide +kernel, by decide +kernel⟩
theorem ok_map (T : Fx mg) (D : Df K mg "_law_map" sL_map) (c_L_value : Cl P w K mg base 1 "_law_value" (spF K 1 R_val)) (c_L_turned : Cl P w K mg base 1 "_law_turned" (spF K 2 R_turn)) (c_L_bits : Cl P w K mg base 1 "_law_bits" (spF K 2 R_bits)) : Cl P w K mg base 2 "_law_map" (spL K 1 R_map) := by
  refine cl_L D scL_map rfl (fun _ _ _ _ _ _ us hl => match us, hl with | [_], _ => rfl) ?_
  intro f cdv A outer s H vs Q E ds es hr ht hR q
  obtain ⟨W, c, hW, hc, rfl, rfl⟩ := hR
  obtain ⟨v1, rfl, h1⟩ := ht.one
  refine ⟨_, (pss_one (ps_ret (pe_lc (own := [("_law_k", 1)]) (g := gName 1) (tt := tYes) rfl scL_map.nd (pi_range1 (by rfl) T.range (pa_cons (pe_op op_shl pe_int (pe_ix (kx_tup (K := K)) (pv 0) pe_int (fun _ _ => rfl))) pa_nil)) (blkOk_by (own := [("_law_k", 1)]) (N := NL_map) (sc := defScope sL_map) (by decide +kernel)) (fun _ _ _ _ _ => (pg_name (i := 1) scL_map.nd rfl (.inl rfl))) (fun _ _ _ _ _ => pts_nil) (fun _ _ _ _ _ => (pe_cl c_L_value hr (by omega) (by rfl) (pa_cons (pe_cl c_L_turned hr (by omega) (by rfl) (pa_cons (pe_ix (kx_tup (K := K)) (pv 0) pe_int (fun _ _ => rfl)) (pa_cons (pe_cl c_L_bits hr (by omega) (by rfl) (pa_cons (pv 1) (pa_cons (pe_ix (kx_tup (K := K)) (pv 0) pe_int (fun _ _ => rfl)) pa_nil))) pa_nil))) pa_nil)))))), ?_⟩
  show KP _ [some v1, none] H
  have i1 : TD K H v1 (.tuple [.int c.1, encGs c.2]) := h1
  have hp := two_pow_le hW
  refine k_retL (ds := (mapOf c W).map PyData.int) ?_ (fun p ws H1 np s hp q1 => q p ws H1 np s hp q1)
  have e : (mapOf c W).map PyData.int = ((rngD (2 ^ W)).filter fun _ => true).map fun d => match d with | .int k => .int (valOf (runL c.2 (bitsOf k W))) | x => x := by
    rw [filt]
    unfold rngD mapOf
    rw [List.map_map, List.map_map]
    rfl
  rw [e]
  refine el_lc (fun _ => true) _ (wd_mono (wd_rng (n := 2 ^ W) (ed_is (ed_shl (k := W) ed_int (ed_is (ed_ix (ed_var rfl i1) ed_int rfl) (by rw [hc.w])) ?_) ?_) (by omega)) fun _ _ _ => trivial) (fun i d v H' s hd q => ?_) (by rw [rngD_len]; omega)
  · exact ⟨by omega, by omega, by decide⟩
  · rw [Int.one_mul, Int.natCast_pow]
    rfl
  have hi : i < 2 ^ W := by
    obtain ⟨h, _⟩ := List.getElem?_eq_some_iff.mp hd
    rw [rngD_len] at h
    exact h
  rw [rngD_at hi] at hd
  cases hd
  have i2 := i1.up s
  refine turn_name rfl et_yes fun _ => ?_
  refine ed_call (ds := [.tuple ((runL c.2 (bitsOf i W)).map PyData.int)]) (ea_cons (ed_call (ds := [encGs c.2, .tuple ((bitsOf i W).map PyData.int)]) (ea_cons (ed_ix (ed_var rfl i2) ed_int rfl) (ea_cons (ed_call (ds := [.int i, .int W]) (ea_cons (ed_var rfl q) (ea_cons (ed_is (ed_ix (ed_var rfl i2) ed_int rfl) (by rw [hc.w])) ea_nil)) ⟨i, W, hW, rfl, rfl⟩) ea_nil)) ⟨W, c.2, bitsOf i W, by omega, hc.g, bitsOf_ok i W, rfl, rfl⟩) ea_nil) ⟨W, _, hW, runL_ok (bitsOf_ok i W) hc.g, rfl, rfl⟩
end
end Bk

set_option Elab.async false
set_option linter.all false
set_option maxRecDepth 100000
set_option maxHeartbeats 4000000
namespace Bk
open PySem PySem.Spec PyProof.Rows L2

local macro_rules | `(tactic| walk_at "ed") => `(tactic| first
  | assumption
  | exact ed_int | exact ed_bl | exact ed_non | exact ed_str | exact ea_nil | exact ep_none | exact et_yes
  | (apply ed_var rfl; assumption)
  | (apply ea_cons; walk_at "ed"; walk_at "ed")
  | (apply ed_ix; walk_at "ed"; walk_at "ed"; rfl)
  | (apply et_B; walk_at "ed")
  | (apply et_T; walk_at "ed")
  | (apply ed_tup; walk_at "ed"; (apply le_line; simp only [List.length_cons, List.length_nil]; omega))
  | (apply ed_eqI; walk_at "ed"; walk_at "ed")
  | (apply ed_neI; walk_at "ed"; walk_at "ed")
  | (apply ed_eqS; walk_at "ed"; walk_at "ed")
  | (apply ed_neS; walk_at "ed"; walk_at "ed")
  | (apply ed_I0; walk_at "ed"; walk_at "ed")
  | (apply ed_B0; walk_at "ed"; walk_at "ed")
  | (apply ed_neg; walk_at "ed")
  | (apply ed_isN; walk_at "ed")
  | (apply ed_notN; walk_at "ed")
  | (apply ed_lenT; walk_at "ed")
  | (apply ep_some; walk_at "ed")
  | (apply ed_sl; walk_at "ed"; walk_at "ed"; walk_at "ed")
  | (apply el_lst; walk_at "ed"; (apply le_line; simp only [List.length_cons, List.length_nil]; omega))
  | (apply ed_tupL; walk_at "ed")
  | (apply et_not; walk_at "ed")
  | (apply ed_notV; walk_at "ed")
  | (apply ed_isInt; walk_at "ed")
  | (apply ed_isBool; walk_at "ed")
  | (apply ed_isTup; walk_at "ed")
  | (apply ed_isStr; walk_at "ed")
  | (apply ed_andF; walk_at "ed"; rfl)
  | (apply ed_andT; walk_at "ed"; rfl; walk_at "ed")
  | (apply ed_orT; walk_at "ed"; rfl)
  | (apply ed_orF; walk_at "ed"; rfl; walk_at "ed")
  | (apply et_andF; walk_at "ed"; rfl)
  | (apply et_andT; walk_at "ed"; rfl; walk_at "ed")
  | (apply et_orT; walk_at "ed"; rfl)
  | (apply et_orF; walk_at "ed"; rfl; walk_at "ed")
  | (apply ed_andV; walk_at "ed"; (intro _; walk_at "ed"))
  | (apply ed_orV; walk_at "ed"; (intro _; walk_at "ed"))
  | (apply et_and; walk_at "ed"; (intro _; walk_at "ed"))
  | (apply et_or; walk_at "ed"; (intro _; walk_at "ed")))

section
variable {K : PySem.W.Frag} {H H' : Hp} {σ : L2.St} {ta : TE}
theorem wd_keysW {p : Addr} {od : Obj} {cs : Ctl} (hp : H p = some (.frz od (.dK (encD cs)))) (hd : EV ta σ H (.ref p)) : WD K (fun _ Hb => Hb p = some (.frz od (.dK (encD cs)))) (iKeys ta) σ H ((keys cs).map PyData.int) := fun H1 a R k => hd H1 a _ fun H2 b => by
  have fz := (a.trans b) _ _ hp
  refine ⟨p, od, rfl, .inl ⟨encD cs, fz, ?_⟩⟩
  have wk : Walk (Itk p od (encD cs)) (encD cs).length (fun H => H p = some (.frz od (.dK (encD cs)))) (fun i H x H' => H' = H ∧ ∃ k v, (encD cs)[i]? = some (k, v) ∧ x = kV k) := walk_keys
  have e : (encD cs).length = ((keys cs).map PyData.int).length := by rw [encD_len, List.length_map, List.length_map]
  rw [e] at wk
  refine k _ H2 _ _ b wk (fun H3 c => c) fun i H3 x H4 c r => ⟨r.1, ?_⟩
  obtain ⟨_, kk, vv, r1, r2⟩ := r
  unfold encD at r1
  rw [List.getElem?_map] at r1
  cases q : cs[i]? with
  | none =>
    rw [q] at r1
    cases r1
  | some c0 =>
    rw [q] at r1
    have e1 : (Sum.inl c0.1, V.int c0.2) = (kk, vv) := Option.some.inj r1
    have e2 := (Prod.mk.inj e1).1
    refine ⟨.int c0.1, ?_, ?_⟩
    · rw [List.getElem?_map, List.getElem?_map, q]
      rfl
    · rw [r2, ← e2]
      exact .int _
/-- a for over the keys of a dict, which is locked meanwhile -/
theorem k_lockKeys {a j : Nat} {p : Addr} {cs : Ctl} {tu : TS} {D : Ends} (K : PySem.W.Frag) (hp : H p = some (.dK (encD cs))) (hs : σ[a]? = some (some (.ref p)))
    (h : ∀ Hs od, Hs p = some (.frz od (.dK (encD cs))) → Wx H Hs → (∀ b o, b ≠ p → H b = some o → Hs b = some o) → ∃ Pv : Nat → L2.St → Hp → Prop, Pv 0 σ Hs ∧ (∀ i σ' H', Pv i σ' H' → H' p = some (.frz od (.dK (encD cs)))) ∧
      (∀ i c σ' H', cs[i]? = some c → Pv i σ' H' → KP (tu { nx := Pv (i + 1), ct := Pv (i + 1), rt := fun v H' => H' p = some (.frz od (.dK (encD cs))) ∧ D.rt v (upd H' p (.dK (encD cs))), bk := fun σ' H' => H' p = some (.frz od (.dK (encD cs))) ∧ D.nx σ' (upd H' p (.dK (encD cs))) }) (σ'.set j (some (.int c.1))) H') ∧
      (∀ σ' H', Pv cs.length σ' H' → D.nx σ' (upd H' p (.dK (encD cs))))) : KP (tLock (tFor (iKeys (tVar a)) (gName j) tu) D) σ H := fun H1 s => by
  refine ⟨p, .dK (encD cs), s _ _ hp, trivial, fun od => ?_⟩
  have fz : upd H1 p (.frz od (.dK (encD cs))) p = some (.frz od (.dK (encD cs))) := upd_same
  refine k_for (wd_keysW (K := K) fz (ev_var hs)) (fun Hs s2 => ?_) _ (Same.refl _)
  obtain ⟨Pv, p0, pR, ps, pd⟩ := h Hs od (s2 _ _ fz) ((wx_same s).trans ((wx_dK (s _ _ hp)).trans (wx_same s2))) fun b o nb hb => s2 _ _ (by rw [upd_ne nb]; exact s _ _ hb)
  refine ⟨Pv, p0, pR, fun i d v σ' H' hd q hP => ?_, fun σ' H' hP => ?_⟩
  · rw [List.map_map] at hd
    obtain ⟨c, hc, rfl⟩ := map_at hd
    cases q.int_eq
    exact k_name (ps i c σ' H' hc hP)
  · have lk : ((keys cs).map PyData.int).length = cs.length := by rw [List.length_map, List.length_map]
    rw [lk] at hP
    exact ⟨pR _ _ _ hP, pd σ' H' hP⟩
end
section
variable {P : Program} {w : World} {K : PySem.W.Frag} {mg : Str → Option Value} {base : Heap}
theorem same_back {H Hs H' : Hp} {p : Addr} {o : HO} (hp : H p = some o) (h1 : ∀ b o, b ≠ p → H b = some o → Hs b = some o) (h2 : Same Hs H') : Same H (upd H' p o) := fun b o' hb => by
  by_cases z : b = p
  · subst z
    rw [hp] at hb
    cases hb
    exact upd_same
  · rw [upd_ne z]
    exact h2 _ _ (h1 b o' z hb)
/-- _law_ordered: of a dict that stands as it is -/
def spO (K : PySem.W.Frag) : Sp := fun vs H Q _ => vs.length = 1 ∧ ∃ p cs, vs = [.ref p] ∧ H p = some (.dK (encD cs)) ∧ (keys cs).Nodup ∧ cs.length < 64 ∧ ∀ v H', Same H H' → TD K H' v (encCs (srt cs)) → Q v H'
theorem ed_callO {H : Hp} {σ : L2.St} {ta : TE} {E : XK} {p : Addr} {cs : Ctl} (hd : EV ta σ H (.ref p)) (hp : H p = some (.dK (encD cs))) (hn : (keys cs).Nodup) (hl : cs.length < 64) : ED K (tCall (spO K) [] E (tCons ta tNil)) σ H (encCs (srt cs)) := fun H1 s Q k =>
  hd H1 s _ fun H2 s2 => ⟨rfl, p, cs, rfl, (s.trans s2) _ _ hp, hn, hl, fun v H' s3 q => k v H' (s2.trans s3) q⟩
abbrev NL_ordered : List Str := ["_law_controls", "_law_wire"]
theorem scL_ordered : FnScope NL_ordered ["_law_controls"] (defScope sL_ordered) := ⟨rfl, rfl, rfl, by decide +kernel, rfl, by decide +kernel, by decide +kernel⟩
theorem ok_L_ordered (T : Fx mg) (D : Df K mg "_law_ordered" sL_ordered) : Cl P w K mg base 1 "_law_ordered" (spO K) := by
  refine cl_mk D scL_ordered (fun _ _ _ _ h => h.1) (fun _ _ _ _ _ _ us hl => match us, hl with | [_], _ => rfl) ?_
  intro f cdv A outer s H vs Q E hr h
  obtain ⟨hl, p, cs, rfl, hp, hn, hlen, q⟩ := h
  refine ⟨_, (pss_one (ps_ret (pe_callTy (kc_tup (K := K)) (by rfl) T.tuple bt_tuple (pa_cons (pe_lc (own := [("_law_wire", 1)]) (g := gName 1) (tt := tYes) rfl scL_ordered.nd (kp_list (K := K) (pe_callB (kc_srt (K := K)) (by rfl) T.sorted bt_sorted (pa_cons (pe_callTy (call_list_dK rfl) (by rfl) T.list bt_list (pa_cons (pv 0) pa_nil)) pa_nil))) (blkOk_by (own := [("_law_wire", 1)]) (N := NL_ordered) (sc := defScope sL_ordered) (by decide +kernel)) (fun _ _ _ _ _ => (pg_name (i := 1) scL_ordered.nd rfl (.inl rfl))) (fun _ _ _ _ _ => pts_nil) (fun _ _ _ _ _ => (pe_tupP (pa_cons (pv 1) (pa_cons (pe_dget (hu_of hr) (pv 0) (pv 1) (fun _ _ => rfl)) pa_nil))))) pa_nil)))), ?_⟩
  refine k_at ?_
  show KP _ [some (.ref p), none] H
  exact k_ret (K := K) (d := encCs (srt cs)) (ed_ordered hp rfl (by decide) (by simp) hn hlen) fun v H1 s1 q1 => q v H1 s1 q1
def confAt (f s : Gate) (w : Int) : Bool := has s.2 w && !decide (look f.2 w = look s.2 w)
theorem confAt_iff {f s : Gate} (hs : Asc s.2) : conflict f s = true ↔ ∃ w, w ∈ keys f.2 ∧ confAt f s w = true := by
  rw [conflict_iff hs]
  constructor
  · rintro ⟨w, a, b, h1, h2, h3⟩
    refine ⟨w, has_key.mp (by simp [has, h1]), ?_⟩
    simp [confAt, has, h1, h2, h3]
  · rintro ⟨w, h1, h2⟩
    obtain ⟨a, ha⟩ := Option.isSome_iff_exists.mp (has_key.mpr h1)
    have h3 : has s.2 w = true ∧ ¬ look f.2 w = look s.2 w := by simpa [confAt] using h2
    obtain ⟨b, hb⟩ := Option.isSome_iff_exists.mp h3.1
    refine ⟨w, a, b, ha, hb, fun e => h3.2 ?_⟩
    rw [ha, hb, e]
theorem conf_empty {f s : Gate} (hs : Asc s.2) : ((keys f.2).filter (confAt f s)).isEmpty = !conflict f s := by
  cases hc : conflict f s with
  | true =>
    obtain ⟨w, h1, h2⟩ := (confAt_iff hs).mp hc
    have : w ∈ (keys f.2).filter (confAt f s) := List.mem_filter.mpr ⟨h1, h2⟩
    cases hz : (keys f.2).filter (confAt f s) with
    | nil => rw [hz] at this; cases this
    | cons a r => rfl
  | false =>
    cases hz : (keys f.2).filter (confAt f s) with
    | nil => rfl
    | cons a r =>
      have : a ∈ (keys f.2).filter (confAt f s) := by rw [hz]; exact List.mem_cons_self
      obtain ⟨m1, m2⟩ := List.mem_filter.mp this
      rw [(confAt_iff hs).mpr ⟨a, m1, m2⟩] at hc
      cases hc
theorem notT {W : Int} {g : Gate} (h : GOk W g) : has g.2 g.1 = false := has_no.mpr h.noT
def R_free (ds : List PyData) (d : PyData) : Prop := ∃ (W : Int) (f s : Gate), W ≤ 6 ∧ GOk W f ∧ GOk W s ∧ ds = [encG f, encG s] ∧ d = .bool (exch f s)
abbrev NL_free : List Str := ["_law_one_here", "_law_two", "_law_first", "_law_second", "_law_wire"]
theorem scL_free : FnScope NL_free ["_law_one_here", "_law_two"] (defScope sL_free) := ⟨rfl, rfl, rfl, by decide +kernel, rfl, by decide +kernel, by decide +kernel⟩
theorem ok_free (T : Fx mg) (D : Df K mg "_law_free" sL_free) : Cl P w K mg base 1 "_law_free" (spF K 2 R_free) := by
  refine cl_F D scL_free rfl (fun _ _ _ _ _ _ us hl => match us, hl with | [_, _], _ => rfl) ?_
  intro f cdv A outer s H vs Q E ds d hr ht hR q
  obtain ⟨W, f1, s1, hW, gf, gs, rfl, rfl⟩ := hR
  obtain ⟨v1, v2, rfl, h1, h2⟩ := ht.two
  refine ⟨_, (pss_cons (ps_set (i := 2) scL_free.nd rfl (.inl rfl) (pe_callTy (kc_dic (K := K) rfl) (by rfl) T.dict bt_dict (pa_cons (pe_ix (kx_tup (K := K)) (pv 0) pe_int (fun _ _ => rfl)) pa_nil)))
      (pss_cons (ps_set (i := 3) scL_free.nd rfl (.inl rfl) (pe_callTy (kc_dic (K := K) rfl) (by rfl) T.dict bt_dict (pa_cons (pe_ix (kx_tup (K := K)) (pv 1) pe_int (fun _ _ => rfl)) pa_nil)))
      (pss_cons (ps_if (PW.pt (pw_and (pt_cmp (pc_dnotin (hu_of hr) (pe_ix (kx_tup (K := K)) (pv 0) pe_int (fun _ _ => rfl)) (pv 3))) (pw_and1 (pt_cmp (pc_dnotin (hu_of hr) (pe_ix (kx_tup (K := K)) (pv 1) pe_int (fun _ _ => rfl)) (pv 2)))))) (pss_one (ps_ret pe_bl)) pss_nil)
      (pss_cons (ps_lock (ps_for PassesOwn.never rfl (pi_keys (pv 2)) (pg_name (i := 4) scL_free.nd rfl (.inl rfl)) (pss_one (ps_if (PW.pt (pw_and (pt_cmpR (ko_notin (K := K)) (pv 4) (pe_tupP (pa_cons (pe_ix (kx_tup (K := K)) (pv 0) pe_int (fun _ _ => rfl)) (pa_cons (pe_ix (kx_tup (K := K)) (pv 1) pe_int (fun _ _ => rfl)) pa_nil))) (by rfl)) (pw_and (pt_cmp (pc_din (hu_of hr) (pv 4) (pv 3))) (pw_and1 (pt_cmpR op_ne (pe_dget (hu_of hr) (pv 2) (pv 4) (fun _ _ => rfl)) (pe_dget (hu_of hr) (pv 3) (pv 4) (fun _ _ => rfl)) (nomark _)))))) (pss_one (ps_ret pe_bl)) pss_nil))))
      (pss_one (ps_ret pe_bl)))))), ?_⟩
  show KP _ [some v1, some v2, none, none, none] H
  have h1 : TD K H v1 (.tuple [.int f1.1, encCs f1.2]) := h1
  have h2 : TD K H v2 (.tuple [.int s1.1, encCs s1.2]) := h2
  refine k_setD (cs := f1.2) (edc_dict (K := K) (ed_ix (ed_var rfl h1) ed_int rfl) (gf.gs hW).nd) fun p1 H1 np1 e1 hp1 => ?_
  dsimp only
  refine k_setD (cs := s1.2) (edc_dict (K := K) (ed_ix (ed_var rfl (h2.up e1)) ed_int rfl) (gs.gs hW).nd) fun p2 H2 np2 e2 hp2 => ?_
  have ne12 : p1 ≠ p2 := ne_of_none hp1 np2
  have hp1 := e2 _ _ hp1
  have s2 : Same H H2 := e1.trans e2
  have h1 := h1.up s2
  have h2 := h2.up s2
  dsimp only
  refine k_if1 (b := !has s1.2 f1.1 && !has f1.2 s1.1) (et_and (et_B (K := K) (ed_dni (DictAt.of hp2) (ed_ix (ed_var rfl h1) ed_int rfl) (ev_var rfl))) fun _ => et_B (K := K) (ed_dni (DictAt.of hp1) (ed_ix (ed_var rfl h2) ed_int rfl) (ev_var rfl))) (fun hb => ?_) (fun hb => ?_)
  · refine k_ret (K := K) (d := .bool true) ed_bl fun v H3 s3 q3 => q v H3 (s2.trans s3) ?_
    unfold exch
    rw [hb]
    exact q3
  have hex : exch f1 s1 = conflict f1 s1 := by
    unfold exch
    rw [hb]
    rfl
  rw [hex] at q
  dsimp only
  refine k_seq (k_lockKeys K hp1 rfl fun Hs od fz wx keep => ?_)
  have fin : ∀ {H'}, Same Hs H' → Same H (upd H' p1 (.dK (encD f1.2))) := fun e => s2.trans (same_back hp1 keep e)
  have h1 := h1.w wx
  have h2 := h2.w wx
  have hp2 : Hs p2 = some (.dK (encD s1.2)) := keep _ _ (Ne.symm ne12) hp2
  have d1 : DictAt Hs p1 f1.2 := .inr ⟨od, fz⟩
  have d2 : DictAt Hs p2 s1.2 := .inl hp2
  refine ⟨fun i σ' H' => ∃ x, σ' = [some v1, some v2, some (.ref p1), some (.ref p2), x] ∧ Same Hs H' ∧ ∀ c ∈ f1.2.take i, confAt f1 s1 c.1 = false, ⟨none, rfl, Same.refl _, fun c m => by cases m⟩, fun i σ' H' h => ?_, fun i c σ' H' hc h => ?_, fun σ' H' h => ?_⟩
  · obtain ⟨_, _, h, _⟩ := h
    exact h _ _ fz
  · obtain ⟨x, rfl, s3, hno⟩ := h
    have mc : c ∈ f1.2 := List.mem_of_getElem? hc
    have lc : look f1.2 c.1 = some c.2 := look_of gf.asc mc
    have ct := gf.ctl c mc
    have h1 := h1.up s3
    have h2 := h2.up s3
    refine k_if1 (b := confAt f1 s1 c.1) ?_ (fun hb => ?_) (fun hb => ?_)
    · refine et_is (et_and (et_T (K := K) (ed_inT (neg := true) (ns := [f1.1, s1.1]) (ed_var rfl (.int _)) (ed_tup (ea_cons (ed_ix (ed_var rfl h1) ed_int rfl) (ea_cons (ed_ix (ed_var rfl h2) ed_int rfl) ea_nil)) (le_line (by simp))))) fun _ => et_and (et_B (K := K) (ed_din (d2.up s3) (ed_var rfl (.int _)) (ev_var rfl))) fun h => et_T (K := K) (ed_neI (j := (look s1.2 c.1).getD 0) (ed_dget (d1.up s3) (ev_var rfl) (ed_var rfl (.int _)) lc) (ed_dget (d2.up s3) (ev_var rfl) (ed_var rfl (.int _)) ?_))) ?_
      · obtain ⟨y, hy⟩ := Option.isSome_iff_exists.mp h
        rw [hy]
        rfl
      · have n1 : ¬ f1.1 = c.1 := fun e => ct.2.2.1 e.symm
        by_cases n2 : s1.1 = c.1
        · have := notT gs
          rw [n2] at this
          simp [confAt, this]
        · unfold confAt
          rw [lc]
          cases hs : look s1.2 c.1 with
          | none => simp [n1, n2, has, hs]
          | some y => simp [n1, n2, has, hs]
    · refine k_ret (K := K) (d := .bool true) ed_bl fun v H3 s4 q3 => ⟨s4 _ _ (s3 _ _ fz), q v _ (fin (s3.trans s4)) ?_⟩
      rw [(confAt_iff gs.asc).mpr ⟨c.1, List.mem_map_of_mem mc, hb⟩]
      cases q3
      exact .bl true
    · refine k_mid fun H5 s5 => ⟨_, rfl, s3.trans s5, fun c' m => ?_⟩
      rw [List.take_add_one, hc] at m
      rcases List.mem_append.mp m with m | m
      · exact hno c' m
      · rw [List.mem_singleton.mp m]
        exact hb
  · obtain ⟨x, rfl, s3, hno⟩ := h
    rw [List.take_length] at hno
    dsimp only
    apply k_at
    refine k_ret (K := K) (d := .bool false) ed_bl fun v H3 s4 q3 => q v H3 ((fin s3).trans s4) ?_
    have : conflict f1 s1 = false := by
      cases hc : conflict f1 s1 with
      | false => rfl
      | true =>
        obtain ⟨w, m, hw⟩ := (confAt_iff gs.asc).mp hc
        obtain ⟨c, mc, rfl⟩ := List.mem_map.mp m
        rw [hno c mc] at hw
        cases hw
    rw [this]
    exact q3
def optL {α : Type} (f : α → List PyData) : Option α → List PyData
  | some x => f x
  | none => []
def R_law2 (g : Gate → Gate → List PyData) (ds es : List PyData) : Prop := ∃ (W : Int) (f s : Gate), W ≤ 6 ∧ GOk W f ∧ GOk W s ∧ ds = [encG f, encG s] ∧ es = g f s
abbrev gPassed (f s : Gate) : List PyData := optL (fun m => [encG s, encG f, encG m]) (passed f s)
abbrev gMerged (f s : Gate) : List PyData := optL (fun m => [encG m]) (merged f s)
abbrev NL_passed : List Str := ["_law_one_here", "_law_two", "_law_first", "_law_second", "_law_wire", "_law_w"]
theorem scL_passed : FnScope NL_passed ["_law_one_here", "_law_two"] (defScope sL_passed) := ⟨rfl, rfl, rfl, by decide +kernel, rfl, by decide +kernel, by decide +kernel⟩
theorem ok_L_passed (T : Fx mg) (D : Df K mg "_law_passed" sL_passed) (c_L_ordered : Cl P w K mg base 1 "_law_ordered" (spO K)) : Cl P w K mg base 2 "_law_passed" (spL K 2 (R_law2 gPassed)) := by
  refine cl_L D scL_passed rfl (fun _ _ _ _ _ _ us hl => match us, hl with | [_, _], _ => rfl) ?_
  intro f cdv A outer s H vs Q E ds es hr ht hR q
  obtain ⟨W, f1, s1, hW, gf, gs, rfl, rfl⟩ := hR
  obtain ⟨v1, v2, rfl, h1, h2⟩ := ht.two
  refine ⟨_, (pss_cons (ps_set (i := 2) scL_passed.nd rfl (.inr rfl) (pe_callTy (kc_dic (K := K) rfl) (by rfl) T.dict bt_dict (pa_cons (pe_ix (kx_tup (K := K)) (pv 0) pe_int (fun _ _ => rfl)) pa_nil)))
      (pss_cons (ps_set (i := 3) scL_passed.nd rfl (.inr rfl) (pe_callTy (kc_dic (K := K) rfl) (by rfl) T.dict bt_dict (pa_cons (pe_ix (kx_tup (K := K)) (pv 1) pe_int (fun _ _ => rfl)) pa_nil)))
      (pss_cons (ps_if (PW.pt (pw_or (pt_cmp (pc_dnotin (hu_of hr) (pe_ix (kx_tup (K := K)) (pv 0) pe_int (fun _ _ => rfl)) (pv 3))) (pw_or (pt_cmp (pc_din (hu_of hr) (pe_ix (kx_tup (K := K)) (pv 1) pe_int (fun _ _ => rfl)) (pv 2))) (pw_or1 (pt_cmpR (ko_neD (K := K) hr.units) (pe_lock (pe_lc (own := [("_law_w", 5)]) (g := gName 5) rfl scL_passed.nd (pi_keys (pv 2)) (blkOk_by (own := [("_law_w", 5)]) (N := NL_passed) (sc := defScope sL_passed) (by decide +kernel)) (fun _ _ _ _ _ => (pg_name (i := 5) scL_passed.nd rfl (.inl rfl))) (fun _ _ _ _ _ => pts_one (PW.pt (pw_and (pt_cmp (pc_din (hu_of hr) (pv 5) (pv 3))) (pw_and1 (pt_cmpR op_ne (pe_dget (hu_of hr) (pv 2) (pv 5) (fun _ _ => rfl)) (pe_dget (hu_of hr) (pv 3) (pv 5) (fun _ _ => rfl)) (nomark _)))))) (fun _ _ _ _ _ => (pv 5)))) (pe_lst pa_nil) (nomark _)))))) (pss_one (ps_ret (pe_lst pa_nil))) pss_nil)
      (pss_cons (ps_expr (pe_dpop1 (pv 3) (pe_ix (kx_tup (K := K)) (pv 0) pe_int (fun _ _ => rfl)) ⟨rfl, rfl, rfl, rfl⟩))
      (pss_cons (ps_lock (ps_for PassesOwn.never rfl (pi_keys (pv 2)) (pg_name (i := 4) scL_passed.nd rfl (.inl rfl)) (pss_one (ps_dput (hu_of hr) (pv 3) (pv 4) (pe_dget (hu_of hr) (pv 2) (pv 4) (fun _ _ => rfl)) rfl))))
      (pss_one (ps_ret (pe_lst (pa_cons (pv 1) (pa_cons (pv 0) (pa_cons (pe_tupP (pa_cons (pe_ix (kx_tup (K := K)) (pv 1) pe_int (fun _ _ => rfl)) (pa_cons (pe_cl c_L_ordered hr (by omega) (by rfl) (pa_cons (pv 3) pa_nil)) pa_nil))) pa_nil))))))))))), ?_⟩
  show KP _ [some v1, some v2, none, none, none, none] H
  have i1 : TD K H v1 (.tuple [.int f1.1, encCs f1.2]) := h1
  have i2 : TD K H v2 (.tuple [.int s1.1, encCs s1.2]) := h2
  have l1 := gok_small gf hW
  have l2 := gok_small gs hW
  refine k_setD (cs := f1.2) (edc_dict (K := K) (ed_ix (ed_var rfl i1) ed_int rfl) (gf.gs hW).nd) fun p1 H1 np1 e1 hp1 => ?_
  dsimp only
  refine k_setD (cs := s1.2) (edc_dict (K := K) (ed_ix (ed_var rfl (i2.up e1)) ed_int rfl) (gs.gs hW).nd) fun p2 H2 np2 e2 hp2 => ?_
  have ne12 : p1 ≠ p2 := ne_of_none hp1 np2
  have hp1 := e2 _ _ hp1
  have s2 : Same H H2 := e1.trans e2
  have j1 := i1.up s2
  have j2 := i2.up s2
  dsimp only
  refine k_if1 (b := !has s1.2 f1.1 || (has f1.2 s1.1 || conflict f1 s1)) ?_ (fun hb => ?_) (fun hb => ?_)
  · refine et_or (et_B (K := K) (ed_dni (DictAt.of hp2) (ed_ix (ed_var rfl j1) ed_int rfl) (ev_var rfl))) fun _ => et_or (et_B (K := K) (ed_din (DictAt.of hp1) (ed_ix (ed_var rfl j2) ed_int rfl) (ev_var rfl))) fun _ => ?_
    refine et_is (et_T (K := K) (ed_neNil (ds := ((keys f1.2).filter (confAt f1 s1)).map PyData.int) (el_keysIf (confAt f1 s1) hp1 rfl (by simp) (by omega) fun od x H' s' hx => ?_) (sh_ints _).1 (sh_ints _).2 rfl)) ?_
    · have d2 : DictAt H' p2 s1.2 := .inl (s' _ _ (by rw [upd_ne (Ne.symm ne12)]; exact hp2))
      have d1 : DictAt H' p1 f1.2 := .inr ⟨od, s' _ _ upd_same⟩
      obtain ⟨y, hy⟩ := Option.isSome_iff_exists.mp (has_key.mpr hx)
      refine et_and (et_B (K := K) (ed_din d2 (ed_var rfl (.int x)) (ev_var rfl))) fun h2 => ?_
      obtain ⟨z, hz⟩ := Option.isSome_iff_exists.mp h2
      refine et_is (et_T (K := K) (ed_neI (ed_dget d1 (ev_var rfl) (ed_var rfl (.int x)) hy) (ed_dget d2 (ev_var rfl) (ed_var rfl (.int x)) hz))) ?_
      rw [hy, hz]
      simp
    · rw [eqv_nilL, List.isEmpty_map, conf_empty gs.asc, Bool.not_not]
  · refine k_retL (K := K) (ds := []) (el_lst ea_nil) fun p ws H3 np s3 hp3 q3 => q p ws H3 (s2.free np) (s2.trans s3) hp3 ?_
    have : passed f1 s1 = none := by
      unfold passed
      rw [if_pos (by rw [Bool.or_assoc]; exact hb)]
    show TDs K H3 ws (optL _ (passed f1 s1))
    rw [this]
    exact q3
  have em : passed f1 s1 = some (s1.1, srt (puts (del s1.2 f1.1) f1.2)) := by
    unfold passed
    rw [if_neg (by rw [Bool.or_assoc, hb]; decide)]
  have hin : has s1.2 f1.1 = true := by
    cases z : has s1.2 f1.1 with
    | true => rfl
    | false => rw [z] at hb; cases hb
  obtain ⟨y, hy⟩ := Option.isSome_iff_exists.mp hin
  dsimp only
  refine k_seq (k_dpop (K := K) hp2 (ev_var rfl) (w := f1.1) (x := y) (ed_ix (ed_var rfl j1) ed_int rfl) hy fun H3 e3 => ?_)
  have np2' : H p2 = none := e1.free np2
  have s4 : Same H (upd H3 p2 (.dK (encD (del s1.2 f1.1)))) := same_mut (s2.trans e3) np2'
  have hp1' : upd H3 p2 (.dK (encD (del s1.2 f1.1))) p1 = some (.dK (encD f1.2)) := by rw [upd_ne ne12]; exact e3 _ _ hp1
  have hp2' : upd H3 p2 (.dK (encD (del s1.2 f1.1))) p2 = some (.dK (encD (del s1.2 f1.1))) := upd_same
  generalize upd H3 p2 (.dK (encD (del s1.2 f1.1))) = H4 at s4 hp1' hp2'
  have np1' : H p1 = none := np1
  dsimp only
  apply k_at
  refine k_seq (k_lockKeys K hp1' rfl fun Hs od fz wx keep => ?_)
  have hp2s : Hs p2 = some (.dK (encD (del s1.2 f1.1))) := keep _ _ (Ne.symm ne12) hp2'
  have dl := del_len s1.2 f1.1
  refine ⟨fun i σ' H' => ∃ x, σ' = [some v1, some v2, some (.ref p1), some (.ref p2), x, none] ∧ H' p1 = some (.frz od (.dK (encD f1.2))) ∧ (∀ b o, b ≠ p2 → Hs b = some o → H' b = some o) ∧ H' p2 = some (.dK (encD (puts (del s1.2 f1.1) (f1.2.take i)))), ⟨none, rfl, fz, fun _ _ _ h => h, hp2s⟩, fun i σ' H' h => ?_, fun i c σ' H' hc h => ?_, fun σ' H' h => ?_⟩
  · obtain ⟨_, _, h, _⟩ := h
    exact h
  · obtain ⟨x, rfl, a1, a2, a3⟩ := h
    have mc : c ∈ f1.2 := List.mem_of_getElem? hc
    have lc : look f1.2 c.1 = some c.2 := look_of gf.asc mc
    have lz : (puts (del s1.2 f1.1) (f1.2.take i)).length < 100000 := by
      have h4 := puts_len (f1.2.take i) (del s1.2 f1.1)
      rw [List.length_take] at h4
      omega
    refine k_dput (K := K) (cs := puts (del s1.2 f1.1) (f1.2.take i)) (w := c.1) (x := c.2) a3 (ev_var rfl) (ed_var rfl (.int _)) (ed_dget (.inr ⟨od, a1⟩) (ev_var rfl) (ed_var rfl (.int _)) lc) lz fun H5 s5 => ⟨_, rfl, ?_, fun b o nb hb => ?_, ?_⟩
    · rw [upd_ne ne12]
      exact s5 _ _ a1
    · rw [upd_ne nb]
      exact s5 _ _ (a2 b o nb hb)
    · rw [upd_same, List.take_add_one, hc]
      show some (HO.dK (encD (put (puts (del s1.2 f1.1) (f1.2.take i)) c.1 c.2))) = some (HO.dK (encD (puts (del s1.2 f1.1) (f1.2.take i ++ [c]))))
      rw [puts_snoc]
  · obtain ⟨x, rfl, a1, a2, a3⟩ := h
    rw [List.take_length] at a3
    have s5 : Same H (upd H' p1 (.dK (encD f1.2))) := fun b o hb => by
      have n1 : b ≠ p1 := fun z => by rw [z, np1'] at hb; cases hb
      have n2 : b ≠ p2 := fun z => by rw [z, np2'] at hb; cases hb
      rw [upd_ne n1]
      exact a2 _ _ n2 (keep _ _ n1 (s4 _ _ hb))
    have hp2f : upd H' p1 (.dK (encD f1.2)) p2 = some (.dK (encD (puts (del s1.2 f1.1) f1.2))) := by
      rw [upd_ne (Ne.symm ne12)]
      exact a3
    generalize upd H' p1 (.dK (encD f1.2)) = H6 at s5 hp2f
    have nd : (keys (puts (del s1.2 f1.1) f1.2)).Nodup := nodup_puts _ (nodup_del (gs.gs hW).nd _)
    have ln : (puts (del s1.2 f1.1) f1.2).length < 64 := by
      have := puts_len f1.2 (del s1.2 f1.1)
      omega
    dsimp only
    apply k_at
    refine k_retL (K := K) (ds := [encG s1, encG f1, encG (s1.1, srt (puts (del s1.2 f1.1) f1.2))]) (el_lst (ea_cons (ed_var rfl (h2.up s5)) (ea_cons (ed_var rfl (h1.up s5)) (ea_cons (ed_tup (ea_cons (ed_ix (ed_var rfl (i2.up s5)) ed_int rfl) (ea_cons (ed_callO (ev_var rfl) hp2f nd ln) ea_nil)) (le_line (by simp))) ea_nil))) (le_line (by simp))) fun p ws H7 np s7 hp7 q7 => q p ws H7 (s5.free np) (s5.trans s7) hp7 ?_
    show TDs K H7 ws (optL _ (passed f1 s1))
    rw [em]
    exact q7
abbrev NL_one : List Str := ["_law_one_here", "_law_two", "_law_long", "_law_short", "_law_apart", "_law_more", "_law_wire"]
theorem scL_one : FnScope NL_one ["_law_one_here", "_law_two"] (defScope sL_one) := ⟨rfl, rfl, rfl, by decide +kernel, rfl, by decide +kernel, by decide +kernel⟩
theorem ok_L_one (T : Fx mg) (D : Df K mg "_law_one" sL_one) (c_L_ordered : Cl P w K mg base 1 "_law_ordered" (spO K)) : Cl P w K mg base 2 "_law_one" (spL K 2 (R_law2 gMerged)) := by
  refine cl_L D scL_one rfl (fun _ _ _ _ _ _ us hl => match us, hl with | [_, _], _ => rfl) ?_
  intro f cdv A outer s H vs Q E ds es hr ht hR q
  obtain ⟨W, f1, s1, hW, gf, gs, rfl, rfl⟩ := hR
  obtain ⟨v1, v2, rfl, h1, h2⟩ := ht.two
  refine ⟨_, (pss_cons (ps_if (pt_cmpR op_ne (pe_ix (kx_tup (K := K)) (pv 0) pe_int (fun _ _ => rfl)) (pe_ix (kx_tup (K := K)) (pv 1) pe_int (fun _ _ => rfl)) (nomark _)) (pss_one (ps_ret (pe_lst pa_nil))) pss_nil)
      (pss_cons (ps_set (i := 2) scL_one.nd rfl (.inr rfl) (pe_callTy (kc_dic (K := K) rfl) (by rfl) T.dict bt_dict (pa_cons (pe_ix (kx_tup (K := K)) (pv 0) pe_int (fun _ _ => rfl)) pa_nil)))
      (pss_cons (ps_set (i := 3) scL_one.nd rfl (.inr rfl) (pe_callTy (kc_dic (K := K) rfl) (by rfl) T.dict bt_dict (pa_cons (pe_ix (kx_tup (K := K)) (pv 1) pe_int (fun _ _ => rfl)) pa_nil)))
      (Evl.pss_cut (ps_if (pt_cmpR op_lt (pe_callB call_lenD (by rfl) T.len bt_len (pa_cons (pv 2) pa_nil)) (pe_callB call_lenD (by rfl) T.len bt_len (pa_cons (pv 3) pa_nil)) (nomark _)) (pss_one (ps_asg (pe_tupP (pa_cons (pv 3) (pa_cons (pv 2) pa_nil))) (kg_tup (K := K) (n := 2) rfl (pgs_cons (pg_name (i := 2) scL_one.nd rfl (.inr rfl)) (pgs_cons (pg_name (i := 3) scL_one.nd rfl (.inr rfl)) pgs_nil))))) pss_nil)
      (pss_cons (ps_if (pt_cmpR (ko_neD (K := K) hr.units) (pe_lock (pe_lc (own := [("_law_wire", 6)]) (g := gName 6) rfl scL_one.nd (pi_keys (pv 3)) (blkOk_by (own := [("_law_wire", 6)]) (N := NL_one) (sc := defScope sL_one) (by decide +kernel)) (fun _ _ _ _ _ => (pg_name (i := 6) scL_one.nd rfl (.inl rfl))) (fun _ _ _ _ _ => pts_one (pt_cmp (pc_dnotin (hu_of hr) (pv 6) (pv 2)))) (fun _ _ _ _ _ => (pv 6)))) (pe_lst pa_nil) (nomark _)) (pss_one (ps_ret (pe_lst pa_nil))) pss_nil)
      (pss_cons (ps_lock (ps_setLc (i := 4) (own := [("_law_wire", 6)]) (g := gName 6) rfl scL_one.nd rfl rfl (sw_true rfl rfl rfl (by decide +kernel)) (pi_keys (pv 3)) (blkOk_by (own := [("_law_wire", 6)]) (N := NL_one) (sc := defScope sL_one) (by decide +kernel)) (fun _ _ _ _ _ => (pg_name (i := 6) scL_one.nd rfl (.inl rfl))) (fun _ _ _ _ _ => pts_one (pt_cmpR op_ne (pe_dget (hu_of hr) (pv 3) (pv 6) (fun _ _ => rfl)) (pe_dget (hu_of hr) (pv 2) (pv 6) (fun _ _ => rfl)) (nomark _))) (fun _ _ _ _ _ => (pv 6))))
      (pss_cons (ps_lock (ps_setLc (i := 5) (own := [("_law_wire", 6)]) (g := gName 6) rfl scL_one.nd rfl rfl (sw_true rfl rfl rfl (by decide +kernel)) (pi_keys (pv 2)) (blkOk_by (own := [("_law_wire", 6)]) (N := NL_one) (sc := defScope sL_one) (by decide +kernel)) (fun _ _ _ _ _ => (pg_name (i := 6) scL_one.nd rfl (.inl rfl))) (fun _ _ _ _ _ => pts_one (pt_cmp (pc_dnotin (hu_of hr) (pv 6) (pv 3)))) (fun _ _ _ _ _ => (pv 6))))
      (pss_cons (ps_if (PW.pt (pw_and (pt_cmpR op_eq (pe_callB (kc_len (K := K)) (by rfl) T.len bt_len (pa_cons (pv 4) pa_nil)) pe_int (nomark _)) (pw_and1 (pt_cmpR (ko_eqD (K := K) hr.units) (pv 5) (pe_lst pa_nil) (nomark _))))) (pss_cons (ps_expr (pe_dpop1 (pv 2) (pe_ix (kx_list (K := K)) (pv 4) pe_int (fun _ _ => rfl)) ⟨rfl, rfl, rfl, rfl⟩))
        (pss_one (ps_ret (pe_lst (pa_cons (pe_tupP (pa_cons (pe_ix (kx_tup (K := K)) (pv 0) pe_int (fun _ _ => rfl)) (pa_cons (pe_cl c_L_ordered hr (by omega) (by rfl) (pa_cons (pv 2) pa_nil)) pa_nil))) pa_nil))))) pss_nil)
      (pss_cons (ps_if (PW.pt (pw_and (pt_cmpR (ko_eqD (K := K) hr.units) (pv 4) (pe_lst pa_nil) (nomark _)) (pw_and1 (pt_cmpR op_eq (pe_callB (kc_len (K := K)) (by rfl) T.len bt_len (pa_cons (pv 5) pa_nil)) pe_int (nomark _))))) (pss_cons (ps_dput (hu_of hr) (pv 2) (pe_ix (kx_list (K := K)) (pv 5) pe_int (fun _ _ => rfl)) (pe_op op_sub pe_int (pe_dget (hu_of hr) (pv 2) (pe_ix (kx_list (K := K)) (pv 5) pe_int (fun _ _ => rfl)) (fun _ _ => rfl))) rfl)
        (pss_one (ps_ret (pe_lst (pa_cons (pe_tupP (pa_cons (pe_ix (kx_tup (K := K)) (pv 0) pe_int (fun _ _ => rfl)) (pa_cons (pe_cl c_L_ordered hr (by omega) (by rfl) (pa_cons (pv 2) pa_nil)) pa_nil))) pa_nil))))) pss_nil)
      (pss_one (ps_ret (pe_lst pa_nil)))))))))))), ?_⟩
  show KP _ [some v1, some v2, none, none, none, none, none] H
  have i1 : TD K H v1 (.tuple [.int f1.1, encCs f1.2]) := h1
  have i2 : TD K H v2 (.tuple [.int s1.1, encCs s1.2]) := h2
  have l1 := gok_small gf hW
  have l2 := gok_small gs hW
  have q : ∀ (o : Option Gate) (p : Addr) (ws : List V) (H' : Hp), mergedL f1 s1 = o → H p = none → Same H H' → H' p = some (.lst ws) → TDs K H' ws (optL (fun m => [encG m]) o) → Q (.ref p) H' := fun o p ws H' e a b c d => q p ws H' a b c (by
    show TDs K H' ws (optL _ (merged f1 s1))
    rw [← mergedL_eq gf.asc gs.asc, e]
    exact d)
  refine k_if1 (b := !decide (f1.1 = s1.1)) (et_T (K := K) (ed_neI (ed_ix (ed_var rfl i1) ed_int rfl) (ed_ix (ed_var rfl i2) ed_int rfl))) (fun hb => ?_) (fun hb => ?_)
  · have hne : f1.1 ≠ s1.1 := by simpa using hb
    refine k_retL (K := K) (ds := []) (el_lst ea_nil) fun p ws H3 np s3 hp3 q3 => q none p ws H3 ?_ np s3 hp3 q3
    unfold mergedL
    rw [if_pos hne]
  have htt : ¬ f1.1 ≠ s1.1 := by simpa using hb
  dsimp only
  refine k_setD (cs := f1.2) (edc_dict (K := K) (ed_ix (ed_var rfl i1) ed_int rfl) (gf.gs hW).nd) fun p1 H1 np1 e1 hp1 => ?_
  dsimp only
  refine k_setD (cs := s1.2) (edc_dict (K := K) (ed_ix (ed_var rfl (i2.up e1)) ed_int rfl) (gs.gs hW).nd) fun p2 H2 np2 e2 hp2 => ?_
  have ne12 : p1 ≠ p2 := ne_of_none hp1 np2
  have hp1 := e2 _ _ hp1
  have np2' : H p2 = none := e1.free np2
  have s02 : Same H H2 := e1.trans e2
  dsimp only
  refine k_cut (fun σ' H' => ∃ pa pb, σ' = [some v1, some v2, some (.ref pa), some (.ref pb), none, none, none] ∧ Same H H' ∧ H' pa = some (.dK (encD (bigOf f1 s1))) ∧ H' pb = some (.dK (encD (smallOf f1 s1))) ∧ pa ≠ pb ∧ H pa = none ∧ H pb = none) ?_ ?_
  · refine k_if1 (b := decide (f1.2.length < s1.2.length)) ?_ (fun hb => ?_) (fun hb => ?_)
    · refine et_is (et_T (K := K) (ed_B0 (ed_lenD hp1 (ev_var rfl)) (ed_lenD hp2 (ev_var rfl)))) ?_
      simp
    · have hlt : f1.2.length < s1.2.length := by simpa using hb
      refine k_par (ev_var rfl) (ev_var rfl) fun H3 e3 => ?_
      dsimp only
      refine k_mid fun H4 e4 => ⟨p2, p1, rfl, s02.trans (e3.trans e4), ?_, ?_, Ne.symm ne12, np2', np1⟩
      · rw [bigOf, if_pos hlt]
        exact e4 _ _ (e3 _ _ hp2)
      · rw [smallOf, if_pos hlt]
        exact e4 _ _ (e3 _ _ hp1)
    · have hlt : ¬ f1.2.length < s1.2.length := by simpa using hb
      dsimp only
      refine k_mid fun H4 e4 => ⟨p1, p2, rfl, s02.trans e4, ?_, ?_, ne12, np1, np2'⟩
      · rw [bigOf, if_neg hlt]
        exact e4 _ _ hp1
      · rw [smallOf, if_neg hlt]
        exact e4 _ _ hp2
  rintro σ' H3 ⟨pa, pb, rfl, s03, ha, hb', nab, na, nb⟩
  have bigA : Asc (bigOf f1 s1) := by unfold bigOf; split; exact gs.asc; exact gf.asc
  have smA : Asc (smallOf f1 s1) := by unfold smallOf; split; exact gf.asc; exact gs.asc
  have bigL : (bigOf f1 s1).length ≤ 6 := by unfold bigOf; split <;> assumption
  have smL : (smallOf f1 s1).length ≤ 6 := by unfold smallOf; split <;> assumption
  have hm : mergedL f1 s1 = (if lackOf (smallOf f1 s1) (bigOf f1 s1) ≠ [] then none
      else if ((keys (smallOf f1 s1)).filter fun w => !decide (look (smallOf f1 s1) w = look (bigOf f1 s1) w)).length = 1 ∧ lackOf (bigOf f1 s1) (smallOf f1 s1) = [] then
        some (f1.1, srt (del (bigOf f1 s1) (((keys (smallOf f1 s1)).filter fun w => !decide (look (smallOf f1 s1) w = look (bigOf f1 s1) w)).headD 0)))
      else if ((keys (smallOf f1 s1)).filter fun w => !decide (look (smallOf f1 s1) w = look (bigOf f1 s1) w)) = [] ∧ (lackOf (bigOf f1 s1) (smallOf f1 s1)).length = 1 then
        some (f1.1, srt (put (bigOf f1 s1) ((lackOf (bigOf f1 s1) (smallOf f1 s1)).headD 0) (1 - (look (bigOf f1 s1) ((lackOf (bigOf f1 s1) (smallOf f1 s1)).headD 0)).getD 0)))
      else none) := by
    unfold mergedL
    rw [if_neg htt]
  generalize bigOf f1 s1 = one at ha bigA bigL hm
  generalize smallOf f1 s1 = two at hb' smA smL hm
  have nd1 := asc_nodup bigA
  apply k_at
  refine k_if1 (b := !(lackOf two one).isEmpty) (et_is (et_T (K := K) (ed_neNil (ds := (lackOf two one).map PyData.int) (el_keysIf (fun x => !has one x) hb' rfl (by simp) (by omega) fun od x H' s' hx => ?_) (sh_ints _).1 (sh_ints _).2 rfl)) ?_) (fun hb => ?_) (fun hb => ?_)
  · have da : DictAt H' pa one := .inl (s' _ _ (by rw [upd_ne nab]; exact ha))
    exact et_B (K := K) (ed_dni da (ed_var rfl (.int x)) (ev_var rfl))
  · rw [eqv_nilL, List.isEmpty_map]
  · refine k_retL (K := K) (ds := []) (el_lst ea_nil) fun p ws H4 np s4 hp4 q4 => q none p ws H4 ?_ (s03.free np) (s03.trans s4) hp4 q4
    rw [hm, if_pos (by rw [isE] at hb; simpa using hb)]
  have hlack : ¬ lackOf two one ≠ [] := by
    rw [isE] at hb
    simpa using hb
  have hsub : ∀ x ∈ keys two, x ∈ keys one := lack_nil.mp (Decidable.not_not.mp hlack)
  rw [if_neg hlack] at hm
  dsimp only
  refine k_setLk (ds := ((keys two).filter fun w => !decide (look two w = look one w)).map PyData.int) (K := K) ?_ fun pl ws H4 npl e4 hpl tl => ?_
  · refine el_keysIf (fun w => !decide (look two w = look one w)) hb' rfl (by simp) (by omega) fun od x H' s' hx => ?_
    have da : DictAt H' pa one := .inl (s' _ _ (by rw [upd_ne nab]; exact ha))
    have db : DictAt H' pb two := .inr ⟨od, s' _ _ upd_same⟩
    obtain ⟨y, hy⟩ := Option.isSome_iff_exists.mp (has_key.mpr hx)
    obtain ⟨z, hz⟩ := Option.isSome_iff_exists.mp (has_key.mpr (hsub x hx))
    refine et_is (et_T (K := K) (ed_neI (ed_dget db (ev_var rfl) (ed_var rfl (.int x)) hy) (ed_dget da (ev_var rfl) (ed_var rfl (.int x)) hz))) ?_
    rw [hy, hz]
    simp
  have ew := tl.ints
  subst ew
  have hap : ∀ w ∈ (keys two).filter fun w => !decide (look two w = look one w), w ∈ keys one := fun w m => hsub w (List.mem_filter.mp m).1
  generalize ((keys two).filter fun w => !decide (look two w = look one w)) = ap at hm tl hpl hap
  have ha := e4 _ _ ha
  have hb' := e4 _ _ hb'
  dsimp only
  refine k_setLk (ds := (lackOf one two).map PyData.int) (K := K) ?_ fun po ws H5 npo e5 hpo to => ?_
  · refine el_keysIf (fun x => !has two x) ha rfl (by simp) (by omega) fun od x H' s' hx => ?_
    have db : DictAt H' pb two := .inl (s' _ _ (by rw [upd_ne (Ne.symm nab)]; exact hb'))
    exact et_B (K := K) (ed_dni db (ed_var rfl (.int x)) (ev_var rfl))
  have ew := to.ints
  subst ew
  have ha := e5 _ _ ha
  have hb' := e5 _ _ hb'
  have hpl := e5 _ _ hpl
  have s05 : Same H H5 := s03.trans (e4.trans e5)
  dsimp only
  refine k_if1 (b := decide (ap.length = 1 ∧ lackOf one two = [])) ?_ (fun hc => ?_) (fun hc => ?_)
  · refine et_is (et_and (et_T (K := K) (ed_eqI (ed_lenV hpl (ev_var rfl)) ed_int)) fun _ => et_T (K := K) (ed_nilV hpo (ev_var rfl))) ?_
    rw [isE, List.length_map]
    by_cases x2 : lackOf one two = [] <;> by_cases x3 : ap.length = 1 <;> simp [x2, x3] <;> omega
  · obtain ⟨c1, c2⟩ := of_decide_eq_true hc
    have eo := len1 c1
    have mo : ap.headD 0 ∈ keys one := hap _ (by rw [eo]; simp)
    obtain ⟨y, hy⟩ := Option.isSome_iff_exists.mp (has_key.mpr mo)
    refine k_seq (k_dpop (K := K) ha (ev_var rfl) (w := ap.headD 0) (x := y) (ed_ixV hpl (TDs.of_ints _) (ev_var rfl) ed_int ?_) hy fun H6 e6 => ?_)
    · rw [eo]
      rfl
    have s6 : Same H (upd H6 pa (.dK (encD (del one (ap.headD 0))))) := same_mut (s05.trans e6) na
    have hpa : upd H6 pa (.dK (encD (del one (ap.headD 0)))) pa = some (.dK (encD (del one (ap.headD 0)))) := upd_same
    generalize upd H6 pa (.dK (encD (del one (ap.headD 0)))) = H7 at s6 hpa
    have dl := del_len one (ap.headD 0)
    apply k_at
    refine k_retL (K := K) (ds := [encG (f1.1, srt (del one (ap.headD 0)))]) (el_lst (ea_cons (ed_tup (ea_cons (ed_ix (ed_var rfl (i1.up s6)) ed_int rfl) (ea_cons (ed_callO (ev_var rfl) hpa (nodup_del nd1 _) (by omega)) ea_nil)) (le_line (by simp))) ea_nil) (le_line (by simp))) fun p ws H8 np s8 hp8 q8 => q (some (f1.1, srt (del one (ap.headD 0)))) p ws H8 ?_ (s6.free np) (s6.trans s8) hp8 q8
    rw [hm, if_pos ⟨c1, c2⟩]
  have hc' := of_decide_eq_false hc
  dsimp only
  refine k_if1 (b := decide (ap = [] ∧ (lackOf one two).length = 1)) ?_ (fun hd => ?_) (fun hd => ?_)
  · refine et_is (et_and (et_T (K := K) (ed_nilV hpl (ev_var rfl))) fun _ => et_T (K := K) (ed_eqI (ed_lenV hpo (ev_var rfl)) ed_int)) ?_
    rw [isE, List.length_map]
    by_cases x2 : ap = [] <;> by_cases x3 : (lackOf one two).length = 1 <;> simp [x2, x3] <;> omega
  · obtain ⟨c1, c2⟩ := of_decide_eq_true hd
    have eo := len1 c2
    have mo : (lackOf one two).headD 0 ∈ keys one := by
      have : (lackOf one two).headD 0 ∈ lackOf one two := by
        rw [eo]
        simp
      exact (List.mem_filter.mp this).1
    obtain ⟨y, hy⟩ := Option.isSome_iff_exists.mp (has_key.mpr mo)
    have ix : ∀ H', Same H5 H' → ED K (tOp (rIxL K) (tVar 5) (tC (.int 0))) [some v1, some v2, some (.ref pa), some (.ref pb), some (.ref pl), some (.ref po), none] H' (.int ((lackOf one two).headD 0)) := fun H' s' => by
      refine ed_ixV (s' _ _ hpo) (TDs.of_ints _) (ev_var rfl) ed_int ?_
      rw [eo]
      rfl
    refine k_seq (k_dput (K := K) ha (ev_var rfl) (w := (lackOf one two).headD 0) (x := 1 - y) (ix H5 (Same.refl _)) (ed_I0 ed_int (ed_dget (DictAt.of ha) (ev_var rfl) (ix H5 (Same.refl _)) hy)) (by omega) fun H6 e6 => ?_)
    have s6 : Same H (upd H6 pa (.dK (encD (put one ((lackOf one two).headD 0) (1 - y))))) := same_mut (s05.trans e6) na
    have hpa : upd H6 pa (.dK (encD (put one ((lackOf one two).headD 0) (1 - y)))) pa = some (.dK (encD (put one ((lackOf one two).headD 0) (1 - y)))) := upd_same
    have pl : (put one ((lackOf one two).headD 0) (1 - y)).length < 64 := by
      unfold put
      rw [if_pos (has_key.mpr mo), List.length_map]
      omega
    generalize upd H6 pa (.dK (encD (put one ((lackOf one two).headD 0) (1 - y)))) = H7 at s6 hpa
    apply k_at
    refine k_retL (K := K) (ds := [encG (f1.1, srt (put one ((lackOf one two).headD 0) (1 - y)))]) (el_lst (ea_cons (ed_tup (ea_cons (ed_ix (ed_var rfl (i1.up s6)) ed_int rfl) (ea_cons (ed_callO (ev_var rfl) hpa (nodup_put nd1 _ _) pl) ea_nil)) (le_line (by simp))) ea_nil) (le_line (by simp))) fun p ws H8 np s8 hp8 q8 => q (some (f1.1, srt (put one ((lackOf one two).headD 0) (1 - y)))) p ws H8 ?_ (s6.free np) (s6.trans s8) hp8 q8
    rw [hm, if_neg hc', if_pos ⟨c1, c2⟩, hy]
    rfl
  have hd' := of_decide_eq_false hd
  dsimp only
  refine k_retL (K := K) (ds := []) (el_lst ea_nil) fun p ws H8 np s8 hp8 q8 => q none p ws H8 ?_ (s05.free np) (s05.trans s8) hp8 q8
  rw [hm, if_neg hc', if_neg hd']
end
end Bk

set_option Elab.async false
set_option linter.all false
set_option maxRecDepth 100000
set_option maxHeartbeats 4000000
namespace Bk
open PySem PySem.Spec PyProof.Rows L2

local macro_rules | `(tactic| walk_at "ed") => `(tactic| first
  | assumption
  | exact ed_int | exact ed_bl | exact ed_non | exact ed_str | exact ea_nil | exact ep_none | exact et_yes
  | (apply ed_var rfl; assumption)
  | (apply ea_cons; walk_at "ed"; walk_at "ed")
  | (apply ed_ix; walk_at "ed"; walk_at "ed"; rfl)
  | (apply et_B; walk_at "ed")
  | (apply et_T; walk_at "ed")
  | (apply ed_tup; walk_at "ed"; (apply le_line; simp only [List.length_cons, List.length_nil]; omega))
  | (apply ed_eqI; walk_at "ed"; walk_at "ed")
  | (apply ed_neI; walk_at "ed"; walk_at "ed")
  | (apply ed_eqS; walk_at "ed"; walk_at "ed")
  | (apply ed_neS; walk_at "ed"; walk_at "ed")
  | (apply ed_I0; walk_at "ed"; walk_at "ed")
  | (apply ed_B0; walk_at "ed"; walk_at "ed")
  | (apply ed_neg; walk_at "ed")
  | (apply ed_isN; walk_at "ed")
  | (apply ed_notN; walk_at "ed")
  | (apply ed_lenT; walk_at "ed")
  | (apply ep_some; walk_at "ed")
  | (apply ed_sl; walk_at "ed"; walk_at "ed"; walk_at "ed")
  | (apply el_lst; walk_at "ed"; (apply le_line; simp only [List.length_cons, List.length_nil]; omega))
  | (apply ed_tupL; walk_at "ed")
  | (apply et_not; walk_at "ed")
  | (apply ed_notV; walk_at "ed")
  | (apply ed_isInt; walk_at "ed")
  | (apply ed_isBool; walk_at "ed")
  | (apply ed_isTup; walk_at "ed")
  | (apply ed_isStr; walk_at "ed")
  | (apply ed_andF; walk_at "ed"; rfl)
  | (apply ed_andT; walk_at "ed"; rfl; walk_at "ed")
  | (apply ed_orT; walk_at "ed"; rfl)
  | (apply ed_orF; walk_at "ed"; rfl; walk_at "ed")
  | (apply et_andF; walk_at "ed"; rfl)
  | (apply et_andT; walk_at "ed"; rfl; walk_at "ed")
  | (apply et_orT; walk_at "ed"; rfl)
  | (apply et_orF; walk_at "ed"; rfl; walk_at "ed")
  | (apply ed_andV; walk_at "ed"; (intro _; walk_at "ed"))
  | (apply ed_orV; walk_at "ed"; (intro _; walk_at "ed"))
  | (apply et_and; walk_at "ed"; (intro _; walk_at "ed"))
  | (apply et_or; walk_at "ed"; (intro _; walk_at "ed")))

section
variable {P : Program} {w : World} {K : PySem.W.Frag} {mg : Str → Option Value} {base : Heap}
def okG (W : Int) (x : PyData) : Bool := match gateD x with
  | some g => inW W g
  | none => false
def noInt : PyData → Bool
  | .int _ => false
  | _ => true
theorem noInt_iff {d : PyData} (h : noInt d = false) : ∃ i, d = .int i := by
  cases d with
  | int i => exact ⟨i, rfl⟩
  | _ => cases h
theorem noInt_num {d : PyData} (h : noInt d = true) : isNumD d = false := by
  cases d with
  | int i => cases h
  | _ => rfl
theorem noInt_eq (d : PyData) : (!isIntD d || isBoolD d) = noInt d := by
  cases d <;> rfl
def noG2 : PyData → Bool
  | .tuple [_, b] => !isTupD b
  | _ => true
theorem noG2_bad {x : PyData} (h : noG2 x = true) : gateD x = none := by
  refine noG_bad ?_
  unfold noG
  split
  · rename_i a b
    have : (!isTupD b) = true := h
    rw [this, Bool.or_true]
  · rfl
theorem noG2_good {x : PyData} (h : noG2 x = false) : ∃ a cs, x = .tuple [a, .tuple cs] := by
  unfold noG2 at h
  split at h
  · rename_i a b
    obtain ⟨cs, rfl⟩ := isTup_iff (by simpa using h)
    exact ⟨a, cs, rfl⟩
  · cases h
/-- the law's own words about controls -/
def allW (W : Int) (o : Option Ctl) : Bool := match o with
  | some r => r.all fun c => decide (c.1 < W)
  | none => false
theorem allW_go (W t b i j : Int) (r : List PyData) (hb : -1 ≤ b) : allW W (ctlD t b (.tuple [.int i, .int j] :: r)) = (!((!(decide (b < i) && decide (i < W))) || (decide (i = t) || !(decide (0 = j) || (decide (1 = j) || false)))) && allW W (ctlD t i r)) := by
  show allW W (if _ then _ else _) = _
  by_cases hc : 0 ≤ i ∧ 0 ≤ j ∧ j ≤ 1 ∧ b < i ∧ i ≠ t
  · rw [if_pos hc, decide_eq_true hc.2.2.2.1, decide_eq_false hc.2.2.2.2]
    have e : (decide (0 = j) || (decide (1 = j) || false)) = true := by
      by_cases h0 : 0 = j
      · rw [decide_eq_true h0]; rfl
      · rw [decide_eq_true (show 1 = j by omega), Bool.true_or, Bool.or_true]
    rw [e]
    cases ctlD t i r with
    | none => simp [allW]
    | some r' => simp [allW]
  · rw [if_neg hc]
    by_cases a1 : b < i
    · by_cases a2 : i = t
      · simp [allW, a2]
      · have e : (decide (0 = j) || (decide (1 = j) || false)) = false := by
          rw [decide_eq_false (show ¬ 0 = j by omega), decide_eq_false (show ¬ 1 = j by omega)]
          rfl
        rw [e]
        simp [allW]
    · simp [allW, a1]
theorem okG_go {W t : Int} {cs : List PyData} : okG W (.tuple [.int t, .tuple cs]) = ((decide (0 ≤ t) && decide (t < W)) && allW W (ctlD t (-1) cs)) := by
  show (match (if 0 ≤ t then (ctlD t (-1) cs).map fun c => (t, c) else none : Option Gate) with
    | some g => inW W g
    | none => false) = _
  by_cases h0 : 0 ≤ t
  · rw [if_pos h0, decide_eq_true h0]
    cases ctlD t (-1) cs with
    | none => simp [allW]
    | some r =>
      show inW W (t, r) = _
      simp [allW, inW, Function.comp_def]
  · rw [if_neg h0, decide_eq_false h0]
    rfl
theorem et_noInt {σ : L2.St} {H : Hp} {te : TE} {d : PyData} (h : ED K te σ H d) : ET (tOr (tNot (tB (tCB (rIsi K) (tCons te (tCons (tC (V.ty "int")) tNil))))) (tB (tCB (rIsi K) (tCons te (tCons (tC (V.ty "bool")) tNil))))) σ H (noInt d) :=
  et_is (et_or (et_not (et_B (K := K) (ed_isInt h))) fun _ => et_B (K := K) (ed_isBool h)) (noInt_eq d)
def R_Lig (ds : List PyData) (d : PyData) : Prop := ∃ (W : Int) (x : PyData), ds = [.int W, x] ∧ d = .bool (okG W x)
abbrev NL_is_gate : List Str := ["_law_wires", "_law_gate_here", "_law_before", "_law_control", "_law_part"]
theorem scL_is_gate : FnScope NL_is_gate ["_law_wires", "_law_gate_here"] (defScope sL_is_gate) := ⟨rfl, rfl, rfl, by decide +kernel, rfl, by decide +kernel, by decide +kernel⟩
theorem ok_L_is_gate (T : Fx mg) (D : Df K mg "_law_is_gate" sL_is_gate) : Cl P w K mg base 1 "_law_is_gate" (spF K 2 R_Lig) := by
  refine cl_F D scL_is_gate rfl (fun _ _ _ _ _ _ us hl => match us, hl with | [_, _], _ => rfl) ?_
  intro f cdv A outer s H vs Q E ds d hr ht hR q
  obtain ⟨W, x, rfl, rfl⟩ := hR
  obtain ⟨v1, v, rfl, h0, h1⟩ := ht.two
  cases h0.int_eq
  refine ⟨_, (pss_cons (ps_if (PW.pt (pw_or (pt_not (pt_val (pe_callB (kc_isi (K := K)) (by rfl) T.isinstance bt_isinstance (pa_cons (pv 1) (pa_cons (pe_bltn (v := .ty "tuple") (by rfl) T.tuple bt_tuple rfl) pa_nil))))) (pw_or (pt_cmpR op_ne (pe_callB (kc_len (K := K)) (by rfl) T.len bt_len (pa_cons (pv 1) pa_nil)) pe_int (nomark _)) (pw_or1 (pt_not (pt_val (pe_callB (kc_isi (K := K)) (by rfl) T.isinstance bt_isinstance (pa_cons (pe_ix (kx_tup (K := K)) (pv 1) pe_int (fun _ _ => rfl)) (pa_cons (pe_bltn (v := .ty "tuple") (by rfl) T.tuple bt_tuple rfl) pa_nil))))))))) (pss_one (ps_ret pe_bl)) pss_nil)
      (pss_cons (ps_if (PW.pt (pw_or (pt_not (pt_val (pe_callB (kc_isi (K := K)) (by rfl) T.isinstance bt_isinstance (pa_cons (pe_ix (kx_tup (K := K)) (pv 1) pe_int (fun _ _ => rfl)) (pa_cons (pe_bltn (v := .ty "int") (by rfl) T.int bt_int rfl) pa_nil))))) (pw_or (pt_val (pe_callB (kc_isi (K := K)) (by rfl) T.isinstance bt_isinstance (pa_cons (pe_ix (kx_tup (K := K)) (pv 1) pe_int (fun _ _ => rfl)) (pa_cons (pe_bltn (v := .ty "bool") (by rfl) T.bool bt_bool rfl) pa_nil)))) (pw_or1 (pt_not (pt_chain op_le op_lt pe_int (pe_ix (kx_tup (K := K)) (pv 1) pe_int (fun _ _ => rfl)) (pv 0))))))) (pss_one (ps_ret pe_bl)) pss_nil)
      (pss_cons (ps_set (i := 2) scL_is_gate.nd rfl (.inl rfl) (pe_un un_neg pe_int))
      (pss_cons (ps_for PassesOwn.never rfl (kp_tup (K := K) (pe_ix (kx_tup (K := K)) (pv 1) pe_int (fun _ _ => rfl))) (pg_name (i := 3) scL_is_gate.nd rfl (.inl rfl)) (pss_cons (ps_if (PW.pt (pw_or (pt_not (pt_val (pe_callB (kc_isi (K := K)) (by rfl) T.isinstance bt_isinstance (pa_cons (pv 3) (pa_cons (pe_bltn (v := .ty "tuple") (by rfl) T.tuple bt_tuple rfl) pa_nil))))) (pw_or1 (pt_cmpR op_ne (pe_callB (kc_len (K := K)) (by rfl) T.len bt_len (pa_cons (pv 3) pa_nil)) pe_int (nomark _))))) (pss_one (ps_ret pe_bl)) pss_nil)
        (pss_cons (ps_for PassesOwn.never rfl (kp_tup (K := K) (pv 3)) (pg_name (i := 4) scL_is_gate.nd rfl (.inl rfl)) (pss_one (ps_if (PW.pt (pw_or (pt_not (pt_val (pe_callB (kc_isi (K := K)) (by rfl) T.isinstance bt_isinstance (pa_cons (pv 4) (pa_cons (pe_bltn (v := .ty "int") (by rfl) T.int bt_int rfl) pa_nil))))) (pw_or1 (pt_val (pe_callB (kc_isi (K := K)) (by rfl) T.isinstance bt_isinstance (pa_cons (pv 4) (pa_cons (pe_bltn (v := .ty "bool") (by rfl) T.bool bt_bool rfl) pa_nil))))))) (pss_one (ps_ret pe_bl)) pss_nil)))
        (pss_cons (ps_if (PW.pt (pw_or (pt_not (pt_chain op_lt op_lt (pv 2) (pe_ix (kx_tup (K := K)) (pv 3) pe_int (fun _ _ => rfl)) (pv 0))) (pw_or (pt_cmpR op_eq (pe_ix (kx_tup (K := K)) (pv 3) pe_int (fun _ _ => rfl)) (pe_ix (kx_tup (K := K)) (pv 1) pe_int (fun _ _ => rfl)) (nomark _)) (pw_or1 (pt_cmpR (ko_notin (K := K)) (pe_ix (kx_tup (K := K)) (pv 3) pe_int (fun _ _ => rfl)) (pe_tupP (pa_cons pe_int (pa_cons pe_int pa_nil))) (by rfl)))))) (pss_one (ps_ret pe_bl)) pss_nil)
        (pss_one (ps_set (i := 2) scL_is_gate.nd rfl (.inl rfl) (pe_ix (kx_tup (K := K)) (pv 3) pe_int (fun _ _ => rfl))))))))
      (pss_one (ps_ret pe_bl)))))), ?_⟩
  show KP _ [some (.int W), some v, none, none, none] H
  refine k_if1 (b := noG2 x) ?_ (fun hb => ?_) (fun hb => ?_)
  · cases x with
    | tuple xs =>
      refine et_orF (et_not (et_B (K := K) (ed_isTup (ed_var rfl h1)))) rfl ?_
      match xs, h1 with
      | [], h1 => exact et_orT (et_T (K := K) (ed_neI (ed_lenT (ed_var rfl h1)) ed_int)) rfl
      | [_], h1 => exact et_orT (et_T (K := K) (ed_neI (ed_lenT (ed_var rfl h1)) ed_int)) rfl
      | [a, b], h1 =>
        refine et_orF (et_T (K := K) (ed_neI (ed_lenT (ed_var rfl h1)) ed_int)) rfl ?_
        exact et_not (et_B (K := K) (ed_isTup (d := b) (ed_ix (ed_var rfl h1) ed_int rfl)))
      | _ :: _ :: _ :: r, h1 =>
        refine et_orT (et_T (K := K) (ed_neI (ed_lenT (ed_var rfl h1)) ed_int)) ?_
        rw [decide_eq_false (by simp only [List.length_cons]; omega)]
        rfl
    | dict x => cases h1
    | _ => exact et_orT (et_not (et_B (K := K) (ed_isTup (ed_var rfl h1)))) rfl
  · refine k_ret (K := K) (d := .bool false) ed_bl fun v H1 s q1 => q v H1 s ?_
    unfold okG
    rw [noG2_bad hb]
    exact q1
  obtain ⟨a, cs, rfl⟩ := noG2_good hb
  have ha : ∀ {σ H'}, Same H H' → σ[1]? = some (some v) → ED K (tOp (rIxT K) (tVar 1) (tC (V.int 0))) σ H' a := fun e hs => ed_ix (ed_var hs (h1.up e)) ed_int rfl
  dsimp only
  cases hna : noInt a with
  | true =>
    refine k_if1 (b := true) ?_ (fun hb => ?_) (fun hb => by cases hb)
    · cases hi : isIntD a with
      | false => exact et_orT (et_not (et_B (K := K) (ed_isInt (ha (Same.refl _) rfl)))) (by rw [hi]; rfl)
      | true =>
        refine et_orF (et_not (et_B (K := K) (ed_isInt (ha (Same.refl _) rfl)))) (by rw [hi]; rfl) (et_orT (et_B (K := K) (ed_isBool (ha (Same.refl _) rfl))) ?_)
        have := noInt_eq a
        rw [hi, hna] at this
        exact this
    · refine k_ret (K := K) (d := .bool false) ed_bl fun v H1 s q1 => q v H1 s ?_
      unfold okG
      rw [noG_bad (by show (!isNumD a || !isTupD (.tuple cs)) = true; rw [noInt_num hna]; rfl)]
      exact q1
  | false =>
  obtain ⟨t, rfl⟩ := noInt_iff hna
  rw [okG_go] at q
  refine k_if1 (b := !(decide (0 ≤ t) && decide (t < W))) ?_ (fun hb => ?_) (fun hb => ?_)
  · refine et_orF (et_not (et_B (K := K) (ed_isInt (ha (Same.refl _) rfl)))) rfl (et_orF (et_B (K := K) (ed_isBool (ha (Same.refl _) rfl))) rfl (et_not (et_T (K := K) (ed_chain ed_int (ha (Same.refl _) rfl) (ed_var rfl (.int _))))))
  · refine k_ret (K := K) (d := .bool false) ed_bl fun v H1 s q1 => q v H1 s ?_
    rw [Bool.not_eq_true'] at hb
    rw [hb]
    exact q1
  rw [Bool.not_eq_false'] at hb
  rw [hb, Bool.true_and] at q
  dsimp only
  refine k_set (K := K) (d := .int (-1)) (ed_neg ed_int) fun v1 H1 e1 q1 => ?_
  cases q1.int_eq
  have h1' := h1.up e1
  dsimp only
  refine k_seq (k_for (wd_tup (ds := cs) (ed_ix (ed_var rfl h1') ed_int rfl)) fun Hs s1 => ?_)
  refine ⟨fun i σ' H' => ∃ b x y, σ' = [some (.int W), some v, some (.int b), x, y] ∧ Same Hs H' ∧ -1 ≤ b ∧ allW W (ctlD t (-1) cs) = allW W (ctlD t b (cs.drop i)), ⟨-1, none, none, rfl, Same.refl _, by omega, rfl⟩, fun i σ' H' h => ?_, fun i d u σ' H' hd q2 h => ?_, fun σ' H' h => ?_⟩
  · obtain ⟨_, _, _, _, h, _⟩ := h
    exact wx_same h
  · obtain ⟨b, x, y, rfl, h2, hb1, h3⟩ := h
    have e2 : Same H H' := e1.trans (s1.trans h2)
    have hdr : cs.drop i = d :: cs.drop (i + 1) := by
      obtain ⟨hi, rfl⟩ := List.getElem?_eq_some_iff.mp hd
      exact List.drop_eq_getElem_cons hi
    rw [hdr] at h3
    refine k_name ?_
    dsimp only
    refine k_if1 (b := noC1 d) (et_noC1 rfl q2) (fun hb => ?_) (fun hb => ?_)
    · refine k_ret (K := K) (d := .bool false) ed_bl fun v3 H3 s3 q3 => q v3 H3 (e2.trans s3) ?_
      rw [h3, ctl_bad1 hb]
      exact q3
    obtain ⟨a1, a2, rfl⟩ := noC1_good hb
    dsimp only
    refine k_seq (k_for (wd_tup (ds := [a1, a2]) (ed_var rfl q2)) fun Hs2 s4 => ?_)
    refine ⟨fun k σ' H'' => ∃ y, σ' = [some (.int W), some v, some (.int b), some u, y] ∧ Same Hs2 H'' ∧ ∀ z ∈ [a1, a2].take k, noInt z = false, ⟨y, rfl, Same.refl _, fun z m => by cases m⟩, fun k σ' H'' h => ?_, fun k z vz σ' H'' hz qz h => ?_, fun σ' H'' h => ?_⟩
    · obtain ⟨_, _, h, _⟩ := h
      exact wx_same h
    · obtain ⟨y', rfl, s5, hno⟩ := h
      refine k_name ?_
      dsimp only
      refine k_if1 (b := noInt z) (et_noInt (ed_var rfl qz)) (fun hb => ?_) (fun hb => ?_)
      · refine k_ret (K := K) (d := .bool false) ed_bl fun v3 H3 s3 q3 => q v3 H3 (e2.trans (s4.trans (s5.trans s3))) ?_
        have hbad : (!isNumD a1 || !isNumD a2) = true := by
          have m := List.mem_of_getElem? hz
          have hnum := noInt_num hb
          rcases List.mem_cons.mp m with e | m
          · rw [← e, hnum]; rfl
          · rw [← List.mem_singleton.mp m, hnum, Bool.not_false, Bool.or_true]
        rw [h3, ctl_bad2 hbad]
        exact q3
      · refine k_mid fun H5 s6 => ⟨_, rfl, s5.trans s6, fun z' m => ?_⟩
        rw [List.take_add_one, hz] at m
        rcases List.mem_append.mp m with m | m
        · exact hno z' m
        · rw [List.mem_singleton.mp m]
          exact hb
    obtain ⟨y', rfl, s5, hno⟩ := h
    obtain ⟨ci, rfl⟩ := noInt_iff (hno a1 (by simp))
    obtain ⟨cj, rfl⟩ := noInt_iff (hno a2 (by simp))
    rw [allW_go _ _ _ _ _ _ hb1] at h3
    have e3 := e2.trans (s4.trans s5)
    have h1'' := h1.up e3
    have q2 := q2.up (s4.trans s5)
    dsimp only
    apply k_at
    refine k_if1 (b := (!(decide (b < ci) && decide (ci < W))) || (decide (ci = t) || !(decide (0 = cj) || (decide (1 = cj) || false)))) ?_ (fun hb => ?_) (fun hb => ?_)
    · refine et_or (et_not (et_T (K := K) (ed_chain (ed_var rfl (.int _)) (ed_ix (ed_var rfl q2) ed_int rfl) (ed_var rfl (.int _))))) fun _ => et_or (et_T (K := K) (ed_eqI (ed_ix (ed_var rfl q2) ed_int rfl) (ed_ix (ed_var rfl h1'') ed_int rfl))) fun _ => ?_
      exact et_T (K := K) (ed_inT (neg := true) (i := cj) (ns := [0, 1]) (ed_ix (ed_var rfl q2) ed_int rfl) (ed_tup (ea_cons ed_int (ea_cons ed_int ea_nil)) (le_line (by simp))))
    · refine k_ret (K := K) (d := .bool false) ed_bl fun v3 H3 s3 q3 => q v3 H3 (e3.trans s3) ?_
      rw [h3, hb]
      exact q3
    dsimp only
    refine k_set (K := K) (d := .int ci) (ed_ix (ed_var rfl q2) ed_int rfl) fun v4 H4 s6 q4 => ?_
    cases q4.int_eq
    have hci : -1 ≤ ci := by
      have : b < ci := by
        by_cases hh : b < ci
        · exact hh
        · rw [decide_eq_false hh] at hb
          cases hb
      omega
    rw [hb] at h3
    exact k_mid fun H5 s7 => ⟨ci, some u, _, rfl, h2.trans (s4.trans (s5.trans (s6.trans s7))), hci, h3⟩
  · obtain ⟨b, x, y, rfl, h2, hb1, h3⟩ := h
    dsimp only
    apply k_at
    refine k_ret (K := K) (d := .bool true) ed_bl fun v3 H3 s3 q3 => q v3 H3 (e1.trans (s1.trans (h2.trans s3))) ?_
    rw [h3, List.drop_length]
    exact q3
/-- a def that gives None or a new list -/
def spLO (K : PySem.W.Frag) (n : Nat) (R : List PyData → Option (List PyData) → Prop) : Sp := fun vs H Q _ => vs.length = n ∧ ∃ ds o, TDs K H vs ds ∧ R ds o ∧ (o = none → ∀ H', Same H H' → Q .non H') ∧ ∀ es, o = some es → ∀ p ws H', H p = none → Same H H' → H' p = some (.lst ws) → TDs K H' ws es → Q (.ref p) H'
def ELO (K : PySem.W.Frag) (te : TE) (σ : L2.St) (H : Hp) (o : Option (List PyData)) : Prop := ∀ H1, Same H H1 → ∀ Q : VK, (o = none → ∀ H2, Same H1 H2 → Q .non H2) → (∀ es, o = some es → ∀ p ws H2, H1 p = none → Same H1 H2 → H2 p = some (.lst ws) → TDs K H2 ws es → Q (.ref p) H2) → te σ H1 Q
theorem elo_call {σ : L2.St} {H : Hp} {n : Nat} {R : List PyData → Option (List PyData) → Prop} {E : XK} {tr : TA} {ds : List PyData} {o : Option (List PyData)} (h : EA K tr σ H ds) (hR : R ds o) (hn : ds.length = n := by rfl) : ELO K (tCall (spLO K n R) [] E tr) σ H o := fun H1 s Q k1 k2 =>
  h H1 s _ fun vs H2 s2 q => ⟨by rw [List.append_nil, q.len]; exact hn, ds, o, by rw [List.append_nil]; exact q, hR, fun e H3 s3 => k1 e H3 (s2.trans s3), fun es e p ws H3 np s3 hp r => k2 es e p ws H3 (s2.free np) (s2.trans s3) hp r⟩
def encL (gs : List Gate) : List PyData := gs.map encG
def Lsp (W : Int) (g : Gate) (x : PyData) : Option (List Gate) := match x with
  | .int k => if 0 ≤ k ∧ k < W then splitG g k else none
  | _ => none
def R_Lsp (ds : List PyData) (o : Option (List PyData)) : Prop := ∃ (W : Int) (g : Gate) (x : PyData), GS g ∧ ds = [.int W, encG g, x] ∧ o = (Lsp W g x).map encL
abbrev NL_split : List Str := ["_law_wires", "_law_gate_here", "_law_wire", "_law_value_here"]
theorem scL_split : FnScope NL_split ["_law_wires", "_law_gate_here", "_law_wire"] (defScope sL_split) := ⟨rfl, rfl, rfl, by decide +kernel, rfl, by decide +kernel, by decide +kernel⟩
theorem ok_L_split (T : Fx mg) (D : Df K mg "_law_split" sL_split) : Cl P w K mg base 1 "_law_split" (spLO K 3 R_Lsp) := by
  refine cl_mk D scL_split (fun _ _ _ _ h => h.1) (fun _ _ _ _ _ _ us hl => match us, hl with | [_, _, _], _ => rfl) ?_
  intro f cdv A outer s H vs Q E hr h
  obtain ⟨hl, ds, o, ht, hR, qn, qs⟩ := h
  obtain ⟨W, g, x, gg, rfl, rfl⟩ := hR
  obtain ⟨v1, v2, v3, rfl, h1, h2, h3⟩ := ht.three
  cases h1.int_eq
  refine ⟨_, (pss_cons (ps_if (PW.pt (pw_or (pt_not (pt_val (pe_callB (kc_isi (K := K)) (by rfl) T.isinstance bt_isinstance (pa_cons (pv 2) (pa_cons (pe_bltn (v := .ty "int") (by rfl) T.int bt_int rfl) pa_nil))))) (pw_or (pt_val (pe_callB (kc_isi (K := K)) (by rfl) T.isinstance bt_isinstance (pa_cons (pv 2) (pa_cons (pe_bltn (v := .ty "bool") (by rfl) T.bool bt_bool rfl) pa_nil)))) (pw_or1 (pt_not (pt_chain op_le op_lt pe_int (pv 2) (pv 0))))))) (pss_one (ps_ret pe_non)) pss_nil)
      (pss_cons (ps_if (PW.pt (pw_or (pt_cmpR op_eq (pv 2) (pe_ix (kx_tup (K := K)) (pv 1) pe_int (fun _ _ => rfl)) (nomark _)) (pw_or1 (pt_cmp (pc_din (hu_of hr) (pv 2) (pe_callTy (kc_dic (K := K) rfl) (by rfl) T.dict bt_dict (pa_cons (pe_ix (kx_tup (K := K)) (pv 1) pe_int (fun _ _ => rfl)) pa_nil))))))) (pss_one (ps_ret pe_non)) pss_nil)
      (pss_one (ps_ret (pe_lc (own := [("_law_value_here", 3)]) (g := gName 3) (tt := tYes) rfl scL_split.nd (kp_tup (K := K) (pe_tupP (pa_cons pe_int (pa_cons pe_int pa_nil)))) (blkOk_by (own := [("_law_value_here", 3)]) (N := NL_split) (sc := defScope sL_split) (by decide +kernel)) (fun _ _ _ _ _ => (pg_name (i := 3) scL_split.nd rfl (.inl rfl))) (fun _ _ _ _ _ => pts_nil) (fun _ _ _ _ _ => (pe_tupP (pa_cons (pe_ix (kx_tup (K := K)) (pv 1) pe_int (fun _ _ => rfl)) (pa_cons (pe_callTy (kc_tup (K := K)) (by rfl) T.tuple bt_tuple (pa_cons (pe_callB (kc_srtT (K := K)) (by rfl) T.sorted bt_sorted (pa_cons (pe_op (ko_cat (K := K)) (pe_ix (kx_tup (K := K)) (pv 1) pe_int (fun _ _ => rfl)) (pe_tupP (pa_cons (pe_tupP (pa_cons (pv 2) (pa_cons (pv 3) pa_nil))) pa_nil))) pa_nil)) pa_nil)) pa_nil))))))))), ?_⟩
  refine k_at ?_
  show KP _ [some (.int W), some v2, some v3, none] H
  have i2 : TD K H v2 (.tuple [.int g.1, encCs g.2]) := h2
  have lg := gg.len
  cases hnx : noInt x with
  | true =>
    refine k_if1 (b := true) ?_ (fun hb => ?_) (fun hb => by cases hb)
    · cases hi : isIntD x with
      | false => exact et_orT (et_not (et_B (K := K) (ed_isInt (ed_var rfl h3)))) (by rw [hi]; rfl)
      | true =>
        refine et_orF (et_not (et_B (K := K) (ed_isInt (ed_var rfl h3)))) (by rw [hi]; rfl) (et_orT (et_B (K := K) (ed_isBool (ed_var rfl h3))) ?_)
        have := noInt_eq x
        rw [hi, hnx] at this
        exact this
    · refine k_ret (K := K) (d := .none) ed_non fun v H1 s q1 => ?_
      cases q1.non_eq
      refine qn ?_ H1 s
      cases x with
      | int i => cases hnx
      | _ => rfl
  | false =>
  obtain ⟨k, rfl⟩ := noInt_iff hnx
  cases h3.int_eq
  have hsp : Lsp W g (.int k) = if 0 ≤ k ∧ k < W then splitG g k else none := rfl
  refine k_if1 (b := !(decide (0 ≤ k) && decide (k < W))) ?_ (fun hb => ?_) (fun hb => ?_)
  · refine et_orF (et_not (et_B (K := K) (ed_isInt (ed_var rfl h3)))) rfl (et_orF (et_B (K := K) (ed_isBool (ed_var rfl h3))) rfl (et_not (et_T (K := K) (ed_chain ed_int (ed_var rfl h3) (ed_var rfl (.int _))))))
  · refine k_ret (K := K) (d := .none) ed_non fun v H1 s q1 => ?_
    cases q1.non_eq
    refine qn ?_ H1 s
    rw [hsp, if_neg (fun h => by simp [h.1, h.2] at hb)]
    rfl
  have hb' : 0 ≤ k ∧ k < W := by simpa using hb
  rw [if_pos hb'] at hsp
  dsimp only
  refine k_if1 (b := decide (k = g.1) || has g.2 k) ?_ (fun hb => ?_) (fun hb => ?_)
  · exact et_or (et_T (K := K) (ed_eqI (ed_var rfl (.int _)) (ed_ix (ed_var rfl i2) ed_int rfl))) fun _ => et_B (K := K) (ed_dinN (ed_var rfl (.int _)) (edc_dict (K := K) (ed_ix (ed_var rfl i2) ed_int rfl) gg.nd))
  · refine k_ret (K := K) (d := .none) ed_non fun v H1 s q1 => ?_
    cases q1.non_eq
    refine qn ?_ H1 s
    rw [hsp]
    unfold splitG
    rw [if_pos (by simpa using hb)]
    rfl
  have hn : ¬ (k = g.1 ∨ has g.2 k = true) := fun z => by
    have : (decide (k = g.1) || has g.2 k) = true := by simpa using z
    rw [this] at hb
    cases hb
  have hl : look g.2 k = none := has_no.mp (by
    cases z : has g.2 k with
    | false => rfl
    | true => exact absurd (.inr z) hn)
  have es : splitG g k = some [(g.1, ins (k, 0) g.2), (g.1, ins (k, 1) g.2)] := by
    unfold splitG
    rw [if_neg hn]
  dsimp only
  refine k_retL (K := K) (ds := [encG (g.1, ins (k, 0) g.2), encG (g.1, ins (k, 1) g.2)]) ?_ fun p ws H1 np s hp q1 => qs _ (by rw [hsp, es]; rfl) p ws H1 np s hp q1
  have e : [encG (g.1, ins (k, 0) g.2), encG (g.1, ins (k, 1) g.2)] = (([PyData.int 0, .int 1]).filter fun _ => true).map fun d => match d with | .int y => encG (g.1, ins (k, y) g.2) | z => z := rfl
  rw [e]
  refine el_lc (fun _ => true) _ (wd_mono (wd_tup (ds := [.int 0, .int 1]) (ed_tup (ea_cons ed_int (ea_cons ed_int ea_nil)) (le_line (by simp)))) fun _ _ => wx_same) (fun i d v' H' s' hd q => ?_) (by simp)
  obtain ⟨y, rfl⟩ : ∃ y, d = .int y := by
    have m := List.mem_of_getElem? hd
    rcases List.mem_cons.mp m with rfl | m
    · exact ⟨_, rfl⟩
    · exact ⟨_, List.mem_singleton.mp m⟩
  have i2 := i2.up s'
  refine turn_name rfl et_yes fun _ => ?_
  refine ed_tup (ea_cons (ed_ix (ed_var rfl i2) ed_int rfl) (ea_cons (ed_tupL ?_) ea_nil)) (le_line (by simp))
  rw [← srt_snoc gg.asc hl]
  refine el_sortT (cs := g.2 ++ [(k, y)]) ?_ ?_
  · unfold encCs
    rw [List.map_append]
    refine ed_cat (ds := g.2.map encC) (es := [encC (k, y)]) (ed_ix (ed_var rfl i2) ed_int rfl) ?_ ?_
    · exact ed_tup (ea_cons (ed_tup (ea_cons (ed_var rfl (.int _)) (ea_cons (ed_var rfl q) ea_nil)) (le_line (by simp))) ea_nil) (le_line (by simp))
    · refine le_line ?_
      rw [List.length_map]
      show g.2.length + 1 ≤ 100000
      omega
  · rw [keys, List.map_append]
    refine List.nodup_append.mpr ⟨gg.nd, by simp, fun a ha b hb => ?_⟩
    have eb : b = k := by simpa using hb
    rw [eb]
    intro e
    rw [e] at ha
    have := has_key.mpr ha
    rw [has, hl] at this
    cases this
end
end Bk

set_option Elab.async false
set_option linter.all false
set_option maxRecDepth 100000
set_option maxHeartbeats 4000000
namespace Bk
open PySem PySem.Spec PyProof.Rows L2

local macro_rules | `(tactic| walk_at "ed") => `(tactic| first
  | assumption
  | exact ed_int | exact ed_bl | exact ed_non | exact ed_str | exact ea_nil | exact ep_none | exact et_yes
  | (apply ed_var rfl; assumption)
  | (apply ea_cons; walk_at "ed"; walk_at "ed")
  | (apply ed_ix; walk_at "ed"; walk_at "ed"; rfl)
  | (apply et_B; walk_at "ed")
  | (apply et_T; walk_at "ed")
  | (apply ed_tup; walk_at "ed"; (apply le_line; simp only [List.length_cons, List.length_nil]; omega))
  | (apply ed_eqI; walk_at "ed"; walk_at "ed")
  | (apply ed_neI; walk_at "ed"; walk_at "ed")
  | (apply ed_eqS; walk_at "ed"; walk_at "ed")
  | (apply ed_neS; walk_at "ed"; walk_at "ed")
  | (apply ed_I0; walk_at "ed"; walk_at "ed")
  | (apply ed_B0; walk_at "ed"; walk_at "ed")
  | (apply ed_neg; walk_at "ed")
  | (apply ed_isN; walk_at "ed")
  | (apply ed_notN; walk_at "ed")
  | (apply ed_lenT; walk_at "ed")
  | (apply ep_some; walk_at "ed")
  | (apply ed_sl; walk_at "ed"; walk_at "ed"; walk_at "ed")
  | (apply el_lst; walk_at "ed"; (apply le_line; simp only [List.length_cons, List.length_nil]; omega))
  | (apply ed_tupL; walk_at "ed")
  | (apply et_not; walk_at "ed")
  | (apply ed_notV; walk_at "ed")
  | (apply ed_isInt; walk_at "ed")
  | (apply ed_isBool; walk_at "ed")
  | (apply ed_isTup; walk_at "ed")
  | (apply ed_isStr; walk_at "ed")
  | (apply ed_andF; walk_at "ed"; rfl)
  | (apply ed_andT; walk_at "ed"; rfl; walk_at "ed")
  | (apply ed_orT; walk_at "ed"; rfl)
  | (apply ed_orF; walk_at "ed"; rfl; walk_at "ed")
  | (apply et_andF; walk_at "ed"; rfl)
  | (apply et_andT; walk_at "ed"; rfl; walk_at "ed")
  | (apply et_orT; walk_at "ed"; rfl)
  | (apply et_orF; walk_at "ed"; rfl; walk_at "ed")
  | (apply ed_andV; walk_at "ed"; (intro _; walk_at "ed"))
  | (apply ed_orV; walk_at "ed"; (intro _; walk_at "ed"))
  | (apply et_and; walk_at "ed"; (intro _; walk_at "ed"))
  | (apply et_or; walk_at "ed"; (intro _; walk_at "ed")))

section
variable {K : PySem.W.Frag} {H : Hp} {σ : L2.St} {ta tb : TE}
/-- the law's own table of words -/
def WdAt (K : PySem.W.Frag) (H : Hp) (p : Addr) : Prop := ∃ kvs : List (Key × V), H p = some (.dK kvs) ∧ (∀ z, wdOf z = none → valV kvs (Sum.inr z) = none) ∧ ∀ wd : Wd, ∃ v, valV kvs (Sum.inr wd.name) = some v ∧ TD K H v (.tuple [.int (wd.len : Int), .int (wd.use : Int)])
theorem WdAt.up {p : Addr} {H' : Hp} (h : WdAt K H p) (e : Same H H') : WdAt K H' p := by
  obtain ⟨kvs, h1, h2, h3⟩ := h
  refine ⟨kvs, e _ _ h1, h2, fun wd => ?_⟩
  obtain ⟨v, a, b⟩ := h3 wd
  exact ⟨v, a, b.up e⟩
theorem ed_wni {p : Addr} {z : Str} (h : WdAt K H p) (hi : ED K ta σ H (.str z)) (hd : EV tb σ H (.ref p)) : ED K (tDNotIn ta tb) σ H (.bool (wdOf z).isNone) := fun H1 a Q k =>
  ev_str hi H1 a _ fun H2 b => hd H2 (a.trans b) _ fun H3 c => by
    obtain ⟨kvs, h1, h2, h3⟩ := h.up ((a.trans b).trans c)
    cases hz : wdOf z with
    | none =>
      rw [hz] at k
      exact ⟨p, none, rfl, .inl ⟨kvs, Sum.inr z, .inl h1, rfl, (h2 z hz).symm⟩, k _ H3 (b.trans c) (.bl _)⟩
    | some wd =>
      rw [hz] at k
      obtain ⟨v, a1, _⟩ := h3 wd
      rw [← wd_some hz] at a1
      exact ⟨p, some v, rfl, .inl ⟨kvs, Sum.inr z, .inl h1, rfl, a1.symm⟩, k _ H3 (b.trans c) (.bl _)⟩
theorem ed_wget {p : Addr} {wd : Wd} (h : WdAt K H p) (hd : EV ta σ H (.ref p)) (hi : ED K tb σ H (.str wd.name)) : ED K (tDGet ta tb) σ H (.tuple [.int (wd.len : Int), .int (wd.use : Int)]) := fun H1 a Q k =>
  hd H1 a _ fun H2 b => ev_str hi H2 (a.trans b) _ fun H3 c => by
    obtain ⟨kvs, h1, h2, h3⟩ := h.up ((a.trans b).trans c)
    obtain ⟨v, a1, a2⟩ := h3 wd
    exact ⟨p, v, rfl, .inl ⟨kvs, Sum.inr wd.name, .inl h1, rfl, a1.symm⟩, k _ H3 (b.trans c) a2⟩
def wdg (f : Wd → V) (wd : Wd) : Key × V := (Sum.inr wd.name, f wd)
theorem putK_new {kvs : List (Key × V)} {k : Key} {v : V} (h : ∀ kv ∈ kvs, kv.1 ≠ k) : putK kvs k v = kvs ++ [(k, v)] := by
  unfold putK
  rw [if_neg]
  intro e
  obtain ⟨kv, m, e2⟩ := List.any_eq_true.mp e
  exact h kv m (of_decide_eq_true e2)
theorem merge_wd (f : Wd → V) : ∀ (l : List Wd) (acc : List Wd), (acc ++ l).Nodup → mergeK (acc.map (wdg f)) (l.map (wdg f)) = (acc ++ l).map (wdg f)
  | [], acc, _ => by
    rw [List.append_nil]
    rfl
  | x :: l, acc, h => by
    show mergeK (putK (acc.map (wdg f)) (Sum.inr x.name) (f x)) (l.map (wdg f)) = _
    rw [putK_new (fun kv m e => ?_)]
    · have e1 : acc.map (wdg f) ++ [((Sum.inr x.name : Key), f x)] = (acc ++ [x]).map (wdg f) := by
        rw [List.map_append]
        rfl
      rw [e1, merge_wd f l (acc ++ [x]) (by rw [List.append_assoc]; exact h), List.append_assoc]
      rfl
    · obtain ⟨y, my, rfl⟩ := List.mem_map.mp m
      have hy : y = x := wd_eq.mp (Sum.inr.inj e)
      exact (List.nodup_append.mp h).2.2 y my x List.mem_cons_self hy
theorem valV_wd (f : Wd → V) (wd : Wd) : ∀ l : List Wd, wd ∈ l → valV (l.map (wdg f)) (Sum.inr wd.name) = some (f wd)
  | [], h => absurd h List.not_mem_nil
  | x :: l, h => by
    by_cases e : x = wd
    · subst e
      unfold valV
      rw [List.map_cons, List.find?_cons_of_pos (by exact decide_eq_true rfl)]
      rfl
    · have := valV_wd f wd l (by
        rcases List.mem_cons.mp h with h | h
        · exact absurd h.symm e
        · exact h)
      unfold valV at this ⊢
      rw [List.map_cons, List.find?_cons_of_neg (by
        intro z
        exact e (wd_eq.mp (Sum.inr.inj (of_decide_eq_true z))))]
      exact this
theorem valV_no (f : Wd → V) (z : Str) (hz : wdOf z = none) : ∀ l : List Wd, valV (l.map (wdg f)) (Sum.inr z) = none
  | [] => rfl
  | x :: l => by
    have := valV_no f z hz l
    unfold valV at this ⊢
    rw [List.map_cons, List.find?_cons_of_neg (by
      intro e
      exact wd_ne hz x (Sum.inr.inj (of_decide_eq_true e)).symm)]
    exact this
def wdl : List Wd := [.cancel, .pair, .exchange, .merge, .split, .pass]
theorem wdl_mem (wd : Wd) : wd ∈ wdl := by cases wd <;> decide
theorem tp_str {z : Str} {x y : Int} {r : List (TE × TE)} {Q : List (V × V) → Hp → Prop} (h : ∀ v H1, Same H H1 → TD K H1 v (.tuple [.int x, .int y]) → tPairs r σ H1 fun ps H3 => Q ((.str z, v) :: ps) H3) :
    tPairs ((tC (.str z), tTupP (tCons (tC (.int x)) (tCons (tC (.int y)) tNil))) :: r) σ H Q :=
  (ed_tup (K := K) (ea_cons ed_int (ea_cons ed_int ea_nil)) (le_line (by simp)) : ED K (tTupP (tCons (tC (V.int x)) (tCons (tC (V.int y)) tNil))) σ H (.tuple [.int x, .int y])) H (Same.refl _) _ h
theorem tp_nil {Q : List (V × V) → Hp → Prop} (h : Q [] H) : tPairs [] σ H Q := h
def dispW : List (TE × TE) := [(tC (V.str "cancel"), tTupP (tCons (tC (V.int 2)) (tCons (tC (V.int 2)) tNil))), (tC (V.str "pair"), tTupP (tCons (tC (V.int 3)) (tCons (tC (V.int 0)) tNil))), (tC (V.str "exchange"), tTupP (tCons (tC (V.int 2)) (tCons (tC (V.int 2)) tNil))),
      (tC (V.str "merge"), tTupP (tCons (tC (V.int 2)) (tCons (tC (V.int 2)) tNil))), (tC (V.str "split"), tTupP (tCons (tC (V.int 3)) (tCons (tC (V.int 1)) tNil))), (tC (V.str "pass"), tTupP (tCons (tC (V.int 2)) (tCons (tC (V.int 2)) tNil)))]
theorem tp_all {Q : List (V × V) → Hp → Prop} (h : ∀ (f : Wd → V) H1, Same H H1 → (∀ wd, TD K H1 (f wd) (.tuple [.int (wd.len : Int), .int (wd.use : Int)])) → Q ((wdl.map (wdg f)).map fun kv => (kV kv.1, kv.2)) H1) : tPairs dispW σ H Q := by
  unfold dispW
  refine tp_str (K := K) fun w1 H2 s2 q1 => tp_str (K := K) fun w2 H3 s3 q2 => tp_str (K := K) fun w3 H4 s4 q3 => tp_str (K := K) fun w4 H5 s5 q4 => tp_str (K := K) fun w5 H6 s6 q5 => tp_str (K := K) fun w6 H7 s7 q6 => tp_nil ?_
  refine h (fun wd => match wd with
    | .cancel => w1
    | .pair => w2
    | .exchange => w3
    | .merge => w4
    | .split => w5
    | .pass => w6) H7 (s2.trans (s3.trans (s4.trans (s5.trans (s6.trans s7))))) fun wd => ?_
  cases wd with
  | cancel => exact q1.up (s3.trans (s4.trans (s5.trans (s6.trans s7))))
  | pair => exact q2.up (s4.trans (s5.trans (s6.trans s7)))
  | exchange => exact q3.up (s5.trans (s6.trans s7))
  | merge => exact q4.up (s6.trans s7)
  | split => exact q5.up s7
  | pass => exact q6
theorem merge_all (f : Wd → V) : mergeK [] (wdl.map (wdg f)) = wdl.map (wdg f) := merge_wd f wdl [] (by decide)
theorem k_words {i : Nat} {D : Ends} (k : ∀ p H1, H p = none → Same H H1 → WdAt K H1 p → KP D.nx (σ.set i (some (.ref p))) H1) : KP (tAsg (tDisp dispW) (gName i) D) σ H := fun H1 a => by
  refine fun p np => tp_all (K := K) fun f H7 s27 hf => ?_
  have hp : H7 p = some (.dK []) := s27 _ _ upd_same
  refine ⟨hp, wdl.map (wdg f), rfl, by rw [List.length_map]; decide, ?_⟩
  rw [merge_all]
  have wx : Wx H7 (upd H7 p (.dK (wdl.map (wdg f)))) := wx_dK hp
  have sm : Same H1 (upd H7 p (.dK (wdl.map (wdg f)))) := same_mut ((same_new np).trans s27) np
  exact k p _ (a.free np) (a.trans sm) ⟨_, upd_same, fun z hz => valV_no f z hz wdl, fun wd => ⟨f wd, valV_wd f wd wdl (wdl_mem wd), (hf wd).w wx⟩⟩ _ (Same.refl _)
end
end Bk

set_option Elab.async false
set_option linter.all false
set_option maxRecDepth 100000
set_option maxHeartbeats 4000000
namespace Bk
open PySem PySem.Spec PyProof.Rows L2

local macro_rules | `(tactic| walk_at "ed") => `(tactic| first
  | assumption
  | exact ed_int | exact ed_bl | exact ed_non | exact ed_str | exact ea_nil | exact ep_none | exact et_yes
  | (apply ed_var rfl; assumption)
  | (apply ea_cons; walk_at "ed"; walk_at "ed")
  | (apply ed_ix; walk_at "ed"; walk_at "ed"; rfl)
  | (apply et_B; walk_at "ed")
  | (apply et_T; walk_at "ed")
  | (apply ed_tup; walk_at "ed"; (apply le_line; simp only [List.length_cons, List.length_nil]; omega))
  | (apply ed_eqI; walk_at "ed"; walk_at "ed")
  | (apply ed_neI; walk_at "ed"; walk_at "ed")
  | (apply ed_eqS; walk_at "ed"; walk_at "ed")
  | (apply ed_neS; walk_at "ed"; walk_at "ed")
  | (apply ed_I0; walk_at "ed"; walk_at "ed")
  | (apply ed_B0; walk_at "ed"; walk_at "ed")
  | (apply ed_neg; walk_at "ed")
  | (apply ed_isN; walk_at "ed")
  | (apply ed_notN; walk_at "ed")
  | (apply ed_lenT; walk_at "ed")
  | (apply ep_some; walk_at "ed")
  | (apply ed_sl; walk_at "ed"; walk_at "ed"; walk_at "ed")
  | (apply el_lst; walk_at "ed"; (apply le_line; simp only [List.length_cons, List.length_nil]; omega))
  | (apply ed_tupL; walk_at "ed")
  | (apply et_not; walk_at "ed")
  | (apply ed_notV; walk_at "ed")
  | (apply ed_isInt; walk_at "ed")
  | (apply ed_isBool; walk_at "ed")
  | (apply ed_isTup; walk_at "ed")
  | (apply ed_isStr; walk_at "ed")
  | (apply ed_andF; walk_at "ed"; rfl)
  | (apply ed_andT; walk_at "ed"; rfl; walk_at "ed")
  | (apply ed_orT; walk_at "ed"; rfl)
  | (apply ed_orF; walk_at "ed"; rfl; walk_at "ed")
  | (apply et_andF; walk_at "ed"; rfl)
  | (apply et_andT; walk_at "ed"; rfl; walk_at "ed")
  | (apply et_orT; walk_at "ed"; rfl)
  | (apply et_orF; walk_at "ed"; rfl; walk_at "ed")
  | (apply ed_andV; walk_at "ed"; (intro _; walk_at "ed"))
  | (apply ed_orV; walk_at "ed"; (intro _; walk_at "ed"))
  | (apply et_and; walk_at "ed"; (intro _; walk_at "ed"))
  | (apply et_or; walk_at "ed"; (intro _; walk_at "ed")))

section
variable {K : PySem.W.Frag} {H : Hp} {σ : L2.St} {ta tb : TE}
theorem eo_list {n : Nat} {ds : List PyData} (h : ∀ d ∈ ds, EqOk n d) (hn : n < 64) : noLs ds = true ∧ SeqAt.shaped (.list ds) = true := by
  obtain ⟨h1, h2, h3⟩ := eo_all h
  refine ⟨h1, ?_⟩
  unfold SeqAt.shaped
  rw [PyData.canLay0, h2, PyData.depth, decide_eq_true (by omega)]
  rfl
theorem ed_nilD {n : Nat} {p : Addr} {ws : List V} {ds : List PyData} (hp : H p = some (.lst ws)) (q : TDs K H ws ds) (ha : EV ta σ H (.ref p)) (he : ∀ d ∈ ds, EqOk n d) (hn : n < 64) : ED K (tOp (rEqD K) ta (tLst tNil)) σ H (.bool ds.isEmpty) := fun H1 a Q k =>
  ha H1 a _ fun H2 b => by
    obtain ⟨h1, h2⟩ := eo_list he hn
    refine ⟨Nat.zero_le _, fun r nr => ⟨.list ds, .list [], .lst (.inl (.inl (same_new nr _ _ ((a.trans b) _ _ hp)))) (TDs.dp _ _ h1 (q.up ((a.trans b).trans (same_new nr)))), .lst (.inl (.inl upd_same)) .nil, h2, rfl, ?_⟩⟩
    rw [eqv_nilL]
    exact k _ _ (b.trans (same_new nr)) (.bl _)
theorem et_noSW {i : Nat} {v : V} {x : PyData} {p : Addr} (hs : σ[i]? = some (some v)) (q : TD K H v x) (hp : EV tb σ H (.ref p)) (hw : WdAt K H p) :
    ET (tOr (tNot (tB (tCB (rIsi K) (tCons (tVar i) (tCons (tC (V.ty "tuple")) tNil))))) (tOr (tTest (tOp (rI0 fun i j => V.bl (decide (i < j))) (tCB (rLen1 K) (tCons (tVar i) tNil)) (tC (V.int 2))))
      (tOr (tNot (tB (tCB (rIsi K) (tCons (tOp (rIxT K) (tVar i) (tC (V.int 0))) (tCons (tC (V.ty "str")) tNil))))) (tB (tDNotIn (tOp (rIxT K) (tVar i) (tC (V.int 0))) tb))))) σ H (noS x) := by
  have hv := ed_var (K := K) hs q
  cases x with
  | tuple xs =>
    refine et_orF (et_not (et_B (K := K) (ed_isTup hv))) rfl ?_
    match xs, q, hv with
    | [], _, hv => exact et_orT (et_T (K := K) (ed_B0 (g := fun i j => decide (i < j)) (j := 2) (ed_lenT hv) ed_int)) rfl
    | [a0], _, hv =>
      rw [show noS (.tuple [a0]) = true from by cases a0 <;> rfl]
      exact et_orT (et_T (K := K) (ed_B0 (g := fun i j => decide (i < j)) (j := 2) (ed_lenT hv) ed_int)) rfl
    | d0 :: d1 :: r, _, hv =>
      refine et_orF (et_T (K := K) (ed_B0 (g := fun i j => decide (i < j)) (j := 2) (ed_lenT hv) ed_int)) (decide_eq_false (by simp only [List.length_cons]; omega)) ?_
      have h0 : ED K (tOp (rIxT K) (tVar i) (tC (V.int 0))) σ H d0 := ed_ix hv ed_int (atI_of (by decide) rfl)
      cases d0 with
      | str z => exact et_orF (et_not (et_B (K := K) (ed_isStr h0))) rfl (et_B (K := K) (ed_wni hw h0 hp))
      | _ => exact et_orT (et_not (et_B (K := K) (ed_isStr h0))) rfl
  | dict x => cases q
  | _ => exact et_orT (et_not (et_B (K := K) (ed_isTup hv))) rfl
theorem k_setLO {te : TE} {i : Nat} {D : Ends} {o : Option (List PyData)} (h : ELO K te σ H o) (k1 : o = none → ∀ H1, Same H H1 → KP D.nx (σ.set i (some .non)) H1) (k2 : ∀ es, o = some es → ∀ p ws H1, H p = none → Same H H1 → H1 p = some (.lst ws) → TDs K H1 ws es → KP D.nx (σ.set i (some (.ref p))) H1) : KP (tAsg te (gName i) D) σ H := fun H1 s =>
  h H1 s _ (fun e H2 s2 => k1 e H2 (s.trans s2) H2 (Same.refl _)) fun es e p ws H2 np s2 hp q => k2 es e p ws H2 (s.free np) (s.trans s2) hp q H2 (Same.refl _)
theorem el_if {tt : TT} {b : Bool} {ds : List PyData} (h : ET tt σ H b) (h1 : b = true → EL K ta σ H ds) (h2 : b = false → EL K tb σ H ds) : EL K (tIf tt ta tb) σ H ds := fun H1 s Q k => h H1 s _ fun H2 s2 => by
  cases b with
  | true => exact h1 rfl H2 (s.trans s2) Q fun p vs H3 np s3 hp q => k p vs H3 (s2.free np) (s2.trans s3) hp q
  | false => exact h2 rfl H2 (s.trans s2) Q fun p vs H3 np s3 hp q => k p vs H3 (s2.free np) (s2.trans s3) hp q
/-- what the new gates are, in the law's way -/
def NewR (K : PySem.W.Frag) (H : Hp) (wd : Wd) (nv : V) (o : Option (List Gate)) : Prop :=
  (o = none ∧ (nv = .non ∨ ∃ p, nv = .ref p ∧ H p = some (.lst []) ∧ wd ≠ .cancel)) ∨ ∃ n p ws, o = some n ∧ nv = .ref p ∧ H p = some (.lst ws) ∧ TDs K H ws (n.map encG) ∧ (n ≠ [] ∨ wd = .cancel) ∧ n.length ≤ 3
theorem NewR.up {wd : Wd} {nv : V} {o : Option (List Gate)} {H' : Hp} (h : NewR K H wd nv o) (e : Same H H') : NewR K H' wd nv o := by
  rcases h with ⟨h1, h2⟩ | ⟨n, p, ws, h1, h2, h3, h4, h5⟩
  · refine .inl ⟨h1, ?_⟩
    rcases h2 with h2 | ⟨p, h2, h3, h4⟩
    · exact .inl h2
    · exact .inr ⟨p, h2, e _ _ h3, h4⟩
  · exact .inr ⟨n, p, ws, h1, h2, e _ _ h3, h4.up e, h5⟩
theorem beh_tail {W : Int} {wd : Wd} {i : Nat} {r : List PyData} {gs : List Gate} {v1 v2 gv nv : V} {x4 x5 x8 : Option V} {o : Option (List Gate)} {D : Ends} (h2 : TD K H v2 (.tuple (.str wd.name :: .int i :: r))) (hg : TD K H gv (encGs gs)) (hn : NewR K H wd nv o) (hl : gs.length ≤ 1000) (hi : i + wd.use ≤ gs.length)
    (k : ∀ v H1, Same H H1 → TD K H1 v (encO encCi (o.map fun n => (W, gs.take i ++ n ++ gs.drop (i + wd.use)))) → D.rt v H1) :
    KP (tSeq (tIfS (tOr (tB (tIsN (tVar 9))) (tAnd (tTest (tOp (rEqD K) (tVar 9) (tLst tNil))) (tTest (tOp rNe (tOp (rIxT K) (tVar 1) (tC (V.int 0))) (tC (V.str (Str.ofString "cancel"))))))) (tRet (tC V.non)) tNext)
      (tRet (tTupP (tCons (tVar 2) (tCons (tOp (rCatP K) (tOp (rCatP K) (tSl (rSlP K) (tVar 3) tNoPart (tPart (tVar 7))) (tCB (rTupP K) (tCons (tVar 9) tNil))) (tSl (rSlP K) (tVar 3) (tPart (tOp (rI0 fun i j => V.int (i + j)) (tVar 7) (tVar 6))) tNoPart)) tNil)))) D)
      [some v1, some v2, some (.int W), some gv, x4, x5, some (.int (wd.use : Int)), some (.int (i : Int)), x8, some nv] H := by
  rcases hn with ⟨rfl, hno⟩ | ⟨n, p, ws, rfl, rfl, hp, tw, hne, hn3⟩
  · refine k_if1 (b := true) ?_ (fun _ => ?_) (fun h => by cases h)
    · rcases hno with rfl | ⟨p, rfl, hp, hw⟩
      · exact et_orT (et_B (K := K) (ed_isN (d := .none) (ed_var rfl .non))) rfl
      · refine et_orF (et_B (K := K) (ed_isN (d := .list []) (ed_var rfl (.lst hp)))) rfl (et_andT (et_T (K := K) (ed_nilD (n := 0) hp .nil (ev_var rfl) (fun d hd => by cases hd) (by decide))) rfl (et_is (et_T (K := K) (ed_neS (ed_ix (ed_var rfl h2) ed_int (atI_of (by decide) rfl)) ed_str)) ?_))
        have : ¬ wd.name = Wd.cancel.name := fun e => hw (wd_eq.mp e)
        show (!decide (wd.name = Wd.cancel.name)) = true
        rw [decide_eq_false this]
        rfl
    · exact k_ret (K := K) (d := .none) ed_non fun v H1 s1 q1 => k v H1 s1 q1
  · refine k_if1 (b := false) ?_ (fun h => by cases h) (fun _ => ?_)
    · refine et_orF (et_B (K := K) (ed_isN (d := .list []) (ed_var rfl (.lst hp)))) rfl ?_
      refine et_is (et_and (et_T (K := K) (ed_nilD (n := 3) hp tw (ev_var rfl) (fun d hd => by obtain ⟨g, _, rfl⟩ := List.mem_map.mp hd; exact eo_G g) (by decide))) fun _ => et_T (K := K) (ed_neS (ed_ix (ed_var rfl h2) ed_int (atI_of (by decide) rfl)) ed_str)) ?_
      rw [List.isEmpty_map]
      rcases hne with hne | rfl
      · cases n with
        | nil => exact absurd rfl hne
        | cons a r => rfl
      · show (_ && !decide (Wd.cancel.name = Wd.cancel.name)) = false
        rw [decide_eq_true rfl]
        simp
    dsimp only
    refine k_ret (K := K) (d := encCi (W, gs.take i ++ n ++ gs.drop (i + wd.use))) ?_ fun v H1 s1 q1 => k v H1 s1 q1
    have gs' : ED K (tVar 3) [some v1, some v2, some (.int W), some gv, x4, x5, some (.int (wd.use : Int)), some (.int (i : Int)), x8, some (.ref p)] H (.tuple (gs.map encG)) := ed_var rfl hg
    refine ed_tup (ea_cons (d := .int W) (ed_var rfl (.int _)) (ea_cons (d := encGs (gs.take i ++ n ++ gs.drop (i + wd.use))) (ed_is (ed_cat (ed_cat (ed_sl gs' ep_none (ep_some (K := K) (ed_var rfl (.int _)))) (ed_tupV hp tw (ev_var rfl)) ?_) (ed_sl gs' (ep_some (K := K) (ed_I0 (ed_var rfl (.int _)) (ed_var rfl (.int _)))) ep_none) ?_) ?_) ea_nil)) (le_line (by simp))
    · rw [cut_lo _ _ (by omega)]
      exact le_line (by simp only [List.length_map, List.length_take]; omega)
    · have := cut_hi gs (i + wd.use) (by omega)
      rw [Int.natCast_add] at this
      rw [this, cut_lo _ _ (by omega)]
      exact le_line (by simp only [List.length_append, List.length_map, List.length_take, List.length_drop]; omega)
    · have := cut_hi gs (i + wd.use) (by omega)
      rw [Int.natCast_add] at this
      rw [this, cut_lo _ _ (by omega)]
      show _ = PyData.tuple ((gs.take i ++ n ++ gs.drop (i + wd.use)).map encG)
      rw [List.map_append, List.map_append]
end
section
variable {P : Program} {w : World} {K : PySem.W.Frag} {mg : Str → Option Value} {base : Heap}
abbrev NL_behind : List Str := ["_law_circuit_here", "_law_step_here", "_law_wires", "_law_gates", "_law_words", "_law_parts", "_law_many", "_law_i", "_law_here", "_law_new"]
theorem scL_behind : FnScope NL_behind ["_law_circuit_here", "_law_step_here"] (defScope sL_behind) := ⟨rfl, rfl, rfl, by decide +kernel, rfl, by decide +kernel, by decide +kernel⟩
theorem ok_behind (T : Fx mg) (D : Df K mg "_law_behind" sL_behind) (c_L_is_gate : Cl P w K mg base 1 "_law_is_gate" (spF K 2 R_Lig)) (c_L_free : Cl P w K mg base 1 "_law_free" (spF K 2 R_free)) (c_L_one : Cl P w K mg base 2 "_law_one" (spL K 2 (R_law2 gMerged)))
    (c_L_split : Cl P w K mg base 1 "_law_split" (spLO K 3 R_Lsp)) (c_L_passed : Cl P w K mg base 2 "_law_passed" (spL K 2 (R_law2 gPassed))) : Cl P w K mg base 3 "_law_behind" (spF K 2 R_step) := by
  refine cl_F D scL_behind rfl (fun _ _ _ _ _ _ us hl => match us, hl with | [_, _], _ => rfl) ?_
  intro f cdv A outer s H vs Q E ds d hr ht hR q
  obtain ⟨W, c, x, hW, hc, hl, hx, rfl, rfl⟩ := hR
  obtain ⟨v1, v2, rfl, h1, h2⟩ := ht.two
  refine ⟨_, (pss_cons (ps_asg (pv 0) (kg_tup (K := K) (n := 2) rfl (pgs_cons (pg_name (i := 2) scL_behind.nd rfl (.inl rfl)) (pgs_cons (pg_name (i := 3) scL_behind.nd rfl (.inl rfl)) pgs_nil))))
      (pss_cons (ps_set (i := 4) scL_behind.nd rfl (.inl rfl) (pe_disp (pps_cons pe_str (pe_tupP (pa_cons pe_int (pa_cons pe_int pa_nil))) (pps_cons pe_str (pe_tupP (pa_cons pe_int (pa_cons pe_int pa_nil))) (pps_cons pe_str (pe_tupP (pa_cons pe_int (pa_cons pe_int pa_nil))) (pps_cons pe_str (pe_tupP (pa_cons pe_int (pa_cons pe_int pa_nil))) (pps_cons pe_str (pe_tupP (pa_cons pe_int (pa_cons pe_int pa_nil))) (pps_cons pe_str (pe_tupP (pa_cons pe_int (pa_cons pe_int pa_nil))) pps_nil)))))) (by rfl) (by rfl) (fun z => by cases z) (by decide)))
      (pss_cons (ps_if (PW.pt (pw_or (pt_not (pt_val (pe_callB (kc_isi (K := K)) (by rfl) T.isinstance bt_isinstance (pa_cons (pv 1) (pa_cons (pe_bltn (v := .ty "tuple") (by rfl) T.tuple bt_tuple rfl) pa_nil))))) (pw_or (pt_cmpR op_lt (pe_callB (kc_len (K := K)) (by rfl) T.len bt_len (pa_cons (pv 1) pa_nil)) pe_int (nomark _)) (pw_or (pt_not (pt_val (pe_callB (kc_isi (K := K)) (by rfl) T.isinstance bt_isinstance (pa_cons (pe_ix (kx_tup (K := K)) (pv 1) pe_int (fun _ _ => rfl)) (pa_cons (pe_bltn (v := .ty "str") (by rfl) T.str bt_str rfl) pa_nil))))) (pw_or1 (pt_cmp (pc_dnotin (hu_of hr) (pe_ix (kx_tup (K := K)) (pv 1) pe_int (fun _ _ => rfl)) (pv 4)))))))) (pss_one (ps_ret pe_non)) pss_nil)
      (pss_cons (ps_asg (pe_dget (hu_of hr) (pv 4) (pe_ix (kx_tup (K := K)) (pv 1) pe_int (fun _ _ => rfl)) (fun _ _ => rfl)) (kg_tup (K := K) (n := 2) rfl (pgs_cons (pg_name (i := 5) scL_behind.nd rfl (.inl rfl)) (pgs_cons (pg_name (i := 6) scL_behind.nd rfl (.inl rfl)) pgs_nil))))
      (pss_cons (ps_set (i := 7) scL_behind.nd rfl (.inl rfl) (pe_ix (kx_tup (K := K)) (pv 1) pe_int (fun _ _ => rfl)))
      (pss_cons (ps_if (PW.pt (pw_or (pt_cmpR op_ne (pe_callB (kc_len (K := K)) (by rfl) T.len bt_len (pa_cons (pv 1) pa_nil)) (pv 5) (nomark _)) (pw_or (pt_not (pt_val (pe_callB (kc_isi (K := K)) (by rfl) T.isinstance bt_isinstance (pa_cons (pv 7) (pa_cons (pe_bltn (v := .ty "int") (by rfl) T.int bt_int rfl) pa_nil))))) (pw_or (pt_val (pe_callB (kc_isi (K := K)) (by rfl) T.isinstance bt_isinstance (pa_cons (pv 7) (pa_cons (pe_bltn (v := .ty "bool") (by rfl) T.bool bt_bool rfl) pa_nil)))) (pw_or (pt_cmpR op_lt (pv 7) pe_int (nomark _)) (pw_or1 (pt_cmpR op_gt (pe_op op_add (pv 7) (pv 6)) (pe_callB (kc_len (K := K)) (by rfl) T.len bt_len (pa_cons (pv 3) pa_nil)) (nomark _)))))))) (pss_one (ps_ret pe_non)) pss_nil)
      (pss_cons (ps_set (i := 8) scL_behind.nd rfl (.inl rfl) (pe_slice (ks_tup (K := K)) (pv 3) (po_some (pv 7)) (po_some (pe_op op_add (pv 7) (pv 6)))))
      (pss_cons (ps_set (i := 9) scL_behind.nd rfl (.inl rfl) (pe_lst pa_nil))
      (pss_cons (ps_if (PW.pt (pw_and (pt_cmpR op_eq (pe_ix (kx_tup (K := K)) (pv 1) pe_int (fun _ _ => rfl)) pe_str (nomark _)) (pw_and1 (pt_cmpR (ko_neD (K := K) hr.units) (pe_ix (kx_tup (K := K)) (pv 8) pe_int (fun _ _ => rfl)) (pe_ix (kx_tup (K := K)) (pv 8) pe_int (fun _ _ => rfl)) (nomark _))))) (pss_one (ps_ret pe_non)) pss_nil)
      (pss_cons (ps_if (pt_cmpR op_eq (pe_ix (kx_tup (K := K)) (pv 1) pe_int (fun _ _ => rfl)) pe_str (nomark _)) (pss_cons (ps_if (pt_not (pt_val (pe_cl c_L_is_gate hr (by omega) (by rfl) (pa_cons (pv 2) (pa_cons (pe_ix (kx_tup (K := K)) (pv 1) pe_int (fun _ _ => rfl)) pa_nil))))) (pss_one (ps_ret pe_non)) pss_nil)
        (pss_one (ps_set (i := 9) scL_behind.nd rfl (.inl rfl) (pe_lst (pa_cons (pe_ix (kx_tup (K := K)) (pv 1) pe_int (fun _ _ => rfl)) (pa_cons (pe_ix (kx_tup (K := K)) (pv 1) pe_int (fun _ _ => rfl)) pa_nil)))))) pss_nil)
      (pss_cons (ps_if (pt_cmpR op_eq (pe_ix (kx_tup (K := K)) (pv 1) pe_int (fun _ _ => rfl)) pe_str (nomark _)) (pss_one (ps_set (i := 9) scL_behind.nd rfl (.inl rfl) (pe_ifExp (pt_val (pe_cl c_L_free hr (by omega) (by rfl) (pa_cons (pe_ix (kx_tup (K := K)) (pv 8) pe_int (fun _ _ => rfl)) (pa_cons (pe_ix (kx_tup (K := K)) (pv 8) pe_int (fun _ _ => rfl)) pa_nil)))) (pe_lst (pa_cons (pe_ix (kx_tup (K := K)) (pv 8) pe_int (fun _ _ => rfl)) (pa_cons (pe_ix (kx_tup (K := K)) (pv 8) pe_int (fun _ _ => rfl)) pa_nil))) pe_non))) pss_nil)
      (pss_cons (ps_if (pt_cmpR op_eq (pe_ix (kx_tup (K := K)) (pv 1) pe_int (fun _ _ => rfl)) pe_str (nomark _)) (pss_one (ps_set (i := 9) scL_behind.nd rfl (.inl rfl) (pe_cl c_L_one hr (by omega) (by rfl) (pa_cons (pe_ix (kx_tup (K := K)) (pv 8) pe_int (fun _ _ => rfl)) (pa_cons (pe_ix (kx_tup (K := K)) (pv 8) pe_int (fun _ _ => rfl)) pa_nil))))) pss_nil)
      (pss_cons (ps_if (pt_cmpR op_eq (pe_ix (kx_tup (K := K)) (pv 1) pe_int (fun _ _ => rfl)) pe_str (nomark _)) (pss_one (ps_set (i := 9) scL_behind.nd rfl (.inl rfl) (pe_cl c_L_split hr (by omega) (by rfl) (pa_cons (pv 2) (pa_cons (pe_ix (kx_tup (K := K)) (pv 8) pe_int (fun _ _ => rfl)) (pa_cons (pe_ix (kx_tup (K := K)) (pv 1) pe_int (fun _ _ => rfl)) pa_nil)))))) pss_nil)
      (pss_cons (ps_if (pt_cmpR op_eq (pe_ix (kx_tup (K := K)) (pv 1) pe_int (fun _ _ => rfl)) pe_str (nomark _)) (pss_one (ps_set (i := 9) scL_behind.nd rfl (.inl rfl) (pe_cl c_L_passed hr (by omega) (by rfl) (pa_cons (pe_ix (kx_tup (K := K)) (pv 8) pe_int (fun _ _ => rfl)) (pa_cons (pe_ix (kx_tup (K := K)) (pv 8) pe_int (fun _ _ => rfl)) pa_nil))))) pss_nil)
      (pss_cons (ps_if (PW.pt (pw_or (pt_cmp (pc_isN (pv 9))) (pw_or1 (PW.pt (pw_and (pt_cmpR (ko_eqD (K := K) hr.units) (pv 9) (pe_lst pa_nil) (nomark _)) (pw_and1 (pt_cmpR op_ne (pe_ix (kx_tup (K := K)) (pv 1) pe_int (fun _ _ => rfl)) pe_str (nomark _)))))))) (pss_one (ps_ret pe_non)) pss_nil)
      (pss_one (ps_ret (pe_tupP (pa_cons (pv 2) (pa_cons (pe_op (ko_cat (K := K)) (pe_op (ko_cat (K := K)) (pe_slice (ks_tup (K := K)) (pv 3) po_none (po_some (pv 7))) (pe_callTy (kc_tup (K := K)) (by rfl) T.tuple bt_tuple (pa_cons (pv 9) pa_nil))) (pe_slice (ks_tup (K := K)) (pv 3) (po_some (pe_op op_add (pv 7) (pv 6))) po_none)) pa_nil)))))))))))))))))))), ?_⟩
  show KP _ [some v1, some v2, none, none, none, none, none, none, none, none] H
  have i1 : TD K H v1 (.tuple [.int c.1, encGs c.2]) := h1
  have cw := hc.w
  refine k_unp2 (d := .int c.1) (e := encGs c.2) (ed_var rfl i1) fun vw gv H1 e1 qw qg => ?_
  cases qw.int_eq
  dsimp only
  refine k_words (K := K) fun pw H2 npw e2 hw => ?_
  have e12 := e1.trans e2
  have h2 := h2.up e12
  have qg := qg.up e2
  dsimp only
  refine k_if1 (b := noS x) (et_noSW rfl h2 (ev_var rfl) hw) (fun hb => ?_) (fun hb => ?_)
  · refine k_ret (K := K) (d := .none) ed_non fun v H3 s1 q1 => q v H3 (e12.trans s1) ?_
    rw [noS_bad hb]
    exact q1
  obtain ⟨wd, y, r, rfl⟩ := noS_good hb
  have h0 : ∀ {σ : L2.St} {H'}, Same H2 H' → σ[1]? = some (some v2) → ED K (tOp (rIxT K) (tVar 1) (tC (V.int 0))) σ H' (.str wd.name) := fun e hs => ed_ix (ed_var hs (h2.up e)) ed_int (atI_of (by decide) rfl)
  have hy : ∀ {σ : L2.St} {H'}, Same H2 H' → σ[1]? = some (some v2) → ED K (tOp (rIxT K) (tVar 1) (tC (V.int 1))) σ H' y := fun e hs => ed_ix (ed_var hs (h2.up e)) ed_int (atI_of (by decide) rfl)
  dsimp only
  refine k_unp2 (d := .int (wd.len : Int)) (e := .int (wd.use : Int)) (ed_wget hw (ev_var rfl) (h0 (Same.refl _) rfl)) fun vl vu H3 e3 ql qu => ?_
  cases ql.int_eq
  cases qu.int_eq
  dsimp only
  refine k_set (K := K) (d := y) (hy e3 rfl) fun vy H4 e4 qy => ?_
  have e24 := e3.trans e4
  have qg := qg.up e24
  have h2' := h2.up e24
  have hgl : (c.2.map encG).length = c.2.length := List.length_map ..
  dsimp only
  cases hny : noInt y with
  | true =>
    refine k_if1 (b := true) ?_ (fun _ => ?_) (fun h => by cases h)
    · refine et_is (et_or (et_T (K := K) (ed_neI (ed_lenT (ed_var rfl h2')) (ed_var rfl (.int _)))) fun _ => ?_) (Bool.or_true _)
      cases hi : isIntD y with
      | false => exact et_orT (et_not (et_B (K := K) (ed_isInt (ed_var rfl qy)))) (by rw [hi]; rfl)
      | true =>
        refine et_orF (et_not (et_B (K := K) (ed_isInt (ed_var rfl qy)))) (by rw [hi]; rfl) (et_orT (et_B (K := K) (ed_isBool (ed_var rfl qy))) ?_)
        have := noInt_eq y
        rw [hi, hny] at this
        exact this
    · refine k_ret (K := K) (d := .none) ed_non fun v H5 s1 q1 => q v H5 (e12.trans (e24.trans s1)) ?_
      rw [behind_bad (by rw [noInt_num hny]; simp)]
      exact q1
  | false =>
  obtain ⟨j, rfl⟩ := noInt_iff hny
  cases qy.int_eq
  refine k_if1 (b := !decide (r.length + 2 = wd.len) || (decide (j < 0) || decide ((c.2.length : Int) < j + wd.use))) ?_ (fun hb => ?_) (fun hb => ?_)
  · refine et_is (et_or (et_T (K := K) (ed_neI (ed_lenT (ed_var rfl h2')) (ed_var rfl (.int _)))) fun _ => et_orF (et_not (et_B (K := K) (ed_isInt (ed_var rfl (.int _))))) rfl (et_orF (et_B (K := K) (ed_isBool (ed_var rfl (.int j)))) rfl (et_or (et_T (K := K) (ed_B0 (ed_var rfl (.int _)) ed_int)) fun _ => et_T (K := K) (ed_B0 (ed_I0 (ed_var rfl (.int _)) (ed_var rfl (.int _))) (ed_lenT (ds := c.2.map encG) (ed_var rfl qg)))))) ?_
    rw [hgl]
    congr 2
    exact decide_eq_decide.mpr (by simp only [List.length_cons]; omega)
  · refine k_ret (K := K) (d := .none) ed_non fun v H5 s1 q1 => q v H5 (e12.trans (e24.trans s1)) ?_
    have : behind c (.tuple (.str wd.name :: .int j :: r)) = none := by
      by_cases hj : r.length + 2 = wd.len ∧ 0 ≤ j
      · obtain ⟨n, rfl⟩ := Int.eq_ofNat_of_zero_le hj.2
        rw [behind_go hj.1]
        refine if_neg fun h => ?_
        have h3 : (c.2.length : Int) < (n : Int) + wd.use := by
          have : decide (r.length + 2 = wd.len) = true := decide_eq_true hj.1
          rw [this, decide_eq_false (show ¬ (n : Int) < 0 by omega)] at hb
          exact of_decide_eq_true hb
        omega
      · refine behind_bad ?_
        by_cases h5 : r.length + 2 = wd.len
        · have : ¬ 0 ≤ j := fun h => hj ⟨h5, h⟩
          simp [isNumD, this]
        · simp [h5]
    rw [this]
    exact q1
  have hb' : r.length + 2 = wd.len ∧ 0 ≤ j ∧ j + wd.use ≤ c.2.length := by
    by_cases a1 : r.length + 2 = wd.len
    · refine ⟨a1, ?_, ?_⟩
      · by_cases a2 : j < 0
        · rw [decide_eq_true a2] at hb
          simp at hb
        · omega
      · by_cases a3 : (c.2.length : Int) < j + wd.use
        · rw [decide_eq_true a3] at hb
          simp at hb
        · omega
    · rw [decide_eq_false a1] at hb
      cases hb
  obtain ⟨hr2, hj0, hju⟩ := hb'
  obtain ⟨i, rfl⟩ := Int.eq_ofNat_of_zero_le hj0
  have hi : i + wd.use ≤ c.2.length := by omega
  have hdo : behind c (.tuple (.str wd.name :: .int i :: r)) = (newOf c.1 (r.headD .none) (gAt c.2 i) (gAt c.2 (i + 1)) wd).map fun n => (c.1, c.2.take i ++ n ++ c.2.drop (i + wd.use)) := (behind_go hr2).trans (if_pos hi)
  rw [hdo] at q
  dsimp only
  refine k_set (K := K) (d := encGs (hereOf c i wd)) ?_ fun hv H5 e5 qh => ?_
  · refine ed_is (ed_sl (ed_var rfl (show TD K H4 gv (.tuple (c.2.map encG)) from qg)) (ep_some (K := K) (ed_var rfl (.int _))) (ep_some (K := K) (ed_I0 (ed_var rfl (.int _)) (ed_var rfl (.int _))))) ?_
    have := cut_mid c.2 i (i + wd.use) (by omega) (by omega)
    rw [Int.natCast_add] at this
    rw [this, Nat.add_sub_cancel_left]
    rfl
  dsimp only
  refine k_setL (K := K) (ds := []) (el_lst ea_nil) fun pn wn H6 npn e6 hpn tn => ?_
  cases tn
  have e26 := e24.trans (e5.trans e6)
  have e06 := e12.trans e26
  have qg := qg.up (e5.trans e6)
  have h2 := h2.up e26
  have h0 : ∀ {σ : L2.St} {H'}, Same H6 H' → σ[1]? = some (some v2) → ED K (tOp (rIxT K) (tVar 1) (tC (V.int 0))) σ H' (.str wd.name) := fun e hs => h0 (e26.trans e) hs
  have qh := qh.up e6
  have two : wd.use = 2 → hereOf c i wd = [gAt c.2 i, gAt c.2 (i + 1)] := fun e => by
    unfold hereOf
    rw [e] at hi ⊢
    have e3 := getD_at (gs := c.2) (i := i) (by omega)
    have e4 := getD_at (gs := c.2) (i := i + 1) (by omega)
    rw [List.take_add_one, List.take_add_one, List.take_zero, List.getElem?_drop, List.getElem?_drop, Nat.add_zero, e3, e4]
    rfl
  have gok : ∀ j, j < c.2.length → GOk W (gAt c.2 j) := fun j hj => hc.g _ (gAt_mem hj)
  have test : ∀ {σ : L2.St} {z : Wd} {b : Bool} {H'}, Same H6 H' → σ[1]? = some (some v2) → decide (wd.name = z.name) = b → ET (tTest (tOp rEq (tOp (rIxT K) (tVar 1) (tC (V.int 0))) (tC (.str z.name)))) σ H' b := fun s hs e => et_is (et_T (K := K) (ed_eqS (h0 s hs) ed_str)) e
  -- what is left when the new gates are known
  have fin : ∀ (nv : V) (H7 : Hp) (v : V) (H8 : Hp) (o : Option (List Gate)), newOf c.1 (r.headD .none) (gAt c.2 i) (gAt c.2 (i + 1)) wd = o → Same H6 H7 → Same H7 H8 → TD K H8 v (encO encCi (o.map fun n => (c.1, c.2.take i ++ n ++ c.2.drop (i + wd.use)))) → Q v H8 := fun nv H7 v H8 o e a b t => q v H8 (e06.trans (a.trans b)) (by rw [e]; exact t)
  have nl : ∀ {o : List Gate}, newOf c.1 (r.headD .none) (gAt c.2 i) (gAt c.2 (i + 1)) wd = some o → o.length ≤ 3 := newOf_len
  clear q
  dsimp only
  cases wd with
  | cancel =>
    have qh' : TD K H6 hv (.tuple [encG (gAt c.2 i), encG (gAt c.2 (i + 1))]) := by
      rw [two rfl] at qh
      exact qh
    have hi' : i + 2 ≤ c.2.length := hi
    have gf := gok i (by omega)
    have gs := gok (i + 1) (by omega)
    refine k_if1 (b := !decide (gAt c.2 i = gAt c.2 (i + 1))) (et_andT (test (z := .cancel) (Same.refl _) rfl (by decide)) rfl (et_T (K := K) (ed_is (ed_neE (n := 3) (ed_ix (ed_var rfl qh') ed_int rfl) (ed_ix (ed_var rfl qh') ed_int rfl) (eo_G _) (eo_G _)) (by rw [eqv_G])))) (fun hb => ?_) (fun hb => ?_)
    · refine k_ret (K := K) (d := .none) ed_non fun v H7 s7 q7 => fin v H6 v H7 none ?_ (Same.refl _) s7 q7
      have : ¬ gAt c.2 i = gAt c.2 (i + 1) := by simpa using hb
      exact if_neg this
    have hfs : gAt c.2 i = gAt c.2 (i + 1) := by simpa using hb
    dsimp only
    refine k_if1 (b := false) (test (z := .pair) (Same.refl _) rfl (by decide)) (fun h => by cases h) (fun _ => ?_)
    dsimp only
    refine k_if1 (b := false) (test (z := .exchange) (Same.refl _) rfl (by decide)) (fun h => by cases h) (fun _ => ?_)
    dsimp only
    refine k_if1 (b := false) (test (z := .merge) (Same.refl _) rfl (by decide)) (fun h => by cases h) (fun _ => ?_)
    dsimp only
    refine k_if1 (b := false) (test (z := .split) (Same.refl _) rfl (by decide)) (fun h => by cases h) (fun _ => ?_)
    dsimp only
    refine k_if1 (b := false) (test (z := .pass) (Same.refl _) rfl (by decide)) (fun h => by cases h) (fun _ => ?_)
    dsimp only
    exact beh_tail (K := K) (wd := .cancel) (o := some []) h2 qg (.inr ⟨[], pn, [], rfl, rfl, hpn, .nil, .inr rfl, by simp⟩) hl hi fun v H8 s8 q8 => fin v H6 v H8 (some []) (if_pos hfs) (Same.refl _) s8 q8
  | pair =>
    match r, hr2, hx with
    | [x], hr2, hx =>
    refine k_if1 (b := false) (et_andF (test (z := .cancel) (Same.refl _) rfl (by decide)) rfl) (fun h => by cases h) (fun _ => ?_)
    dsimp only
    refine k_if1 (b := true) (test (z := .pair) (Same.refl _) rfl (by decide)) (fun _ => ?_) (fun h => by cases h)
    have hx2 : ∀ {σ H'}, Same H6 H' → σ[1]? = some (some v2) → ED K (tOp (rIxT K) (tVar 1) (tC (V.int 2))) σ H' x := fun e hs => ed_ix (ed_var hs (h2.up e)) ed_int rfl
    have hnew : ∀ b, okG c.1 x = b → newOf c.1 ([x].headD .none) (gAt c.2 i) (gAt c.2 (i + 1)) .pair = if b then (gateD x).map fun g => [g, g] else none := fun b hb => by
      show (match gateD x with | some g => if inW c.1 g then some [g, g] else none | none => none) = _
      unfold okG at hb
      cases hg : gateD x with
      | none =>
        rw [hg] at hb
        subst hb
        rfl
      | some g =>
        rw [hg] at hb
        subst hb
        rfl
    refine k_if1 (b := !okG c.1 x) (et_not (et_B (K := K) (ed_call (ds := [.int c.1, x]) (ea_cons (ed_var rfl (.int _)) (ea_cons (hx2 (Same.refl _) rfl) ea_nil)) ⟨c.1, x, rfl, rfl⟩))) (fun hb => ?_) (fun hb => ?_)
    · refine k_ret (K := K) (d := .none) ed_non fun v H7 s7 q7 => fin v H6 v H7 none ?_ (Same.refl _) s7 q7
      rw [hnew false (by simpa using hb)]
      rfl
    have hok : okG c.1 x = true := by simpa using hb
    obtain ⟨g, hg⟩ : ∃ g, gateD x = some g := by
      unfold okG at hok
      cases hg : gateD x with
      | none => rw [hg] at hok; cases hok
      | some g => exact ⟨g, rfl⟩
    have hxe := (gateD_ok hg).1
    have hnw := hnew true hok
    rw [hg] at hnw
    dsimp only
    refine k_setL (K := K) (ds := [x, x]) (el_lst (ea_cons (hx2 (Same.refl _) rfl) (ea_cons (hx2 (Same.refl _) rfl) ea_nil)) (le_line (by simp))) fun p7 w7 H7 np7 s7 hp7 t7 => ?_
    dsimp only
    refine k_if1 (b := false) (test (z := .exchange) s7 rfl (by decide)) (fun h => by cases h) (fun _ => ?_)
    dsimp only
    refine k_if1 (b := false) (test (z := .merge) s7 rfl (by decide)) (fun h => by cases h) (fun _ => ?_)
    dsimp only
    refine k_if1 (b := false) (test (z := .split) s7 rfl (by decide)) (fun h => by cases h) (fun _ => ?_)
    dsimp only
    refine k_if1 (b := false) (test (z := .pass) s7 rfl (by decide)) (fun h => by cases h) (fun _ => ?_)
    dsimp only
    exact beh_tail (K := K) (wd := .pair) (o := some [g, g]) (h2.up s7) (qg.up s7) (.inr ⟨[g, g], p7, w7, rfl, rfl, hp7, by rw [hxe] at t7; exact t7, .inl (by simp), by simp⟩) hl hi fun v H8 s8 q8 => fin v H7 v H8 (some [g, g]) hnw s7 s8 q8
  | exchange =>
    have qh' : TD K H6 hv (.tuple [encG (gAt c.2 i), encG (gAt c.2 (i + 1))]) := by
      rw [two rfl] at qh
      exact qh
    have hi' : i + 2 ≤ c.2.length := hi
    have gf := gok i (by omega)
    have gs := gok (i + 1) (by omega)
    refine k_if1 (b := false) (et_andF (test (z := .cancel) (Same.refl _) rfl (by decide)) rfl) (fun h => by cases h) (fun _ => ?_)
    dsimp only
    refine k_if1 (b := false) (test (z := .pair) (Same.refl _) rfl (by decide)) (fun h => by cases h) (fun _ => ?_)
    dsimp only
    refine k_if1 (b := true) (test (z := .exchange) (Same.refl _) rfl (by decide)) (fun _ => ?_) (fun h => by cases h)
    have hnw : ∀ b, exch (gAt c.2 i) (gAt c.2 (i + 1)) = b → newOf c.1 (r.headD .none) (gAt c.2 i) (gAt c.2 (i + 1)) .exchange = if b then some [gAt c.2 (i + 1), gAt c.2 i] else none := fun b hb => by
      subst hb
      rfl
    have cond : ET (tB (tCall (spF K 2 R_free) [] E0 (tCons (tOp (rIxT K) (tVar 8) (tC (V.int 0))) (tCons (tOp (rIxT K) (tVar 8) (tC (V.int 1))) tNil)))) [some v1, some v2, some (.int c.1), some gv, some (.ref pw), some (.int (Wd.exchange.len : Int)), some (.int (Wd.exchange.use : Int)), some (.int (i : Int)), some hv, some (.ref pn)] H6 (exch (gAt c.2 i) (gAt c.2 (i + 1))) := et_B (K := K) (ed_call (ds := [encG (gAt c.2 i), encG (gAt c.2 (i + 1))]) (ea_cons (ed_ix (ed_var rfl qh') ed_int rfl) (ea_cons (ed_ix (ed_var rfl qh') ed_int rfl) ea_nil)) ⟨W, _, _, hW, gf, gs, rfl, rfl⟩)
    cases hex : exch (gAt c.2 i) (gAt c.2 (i + 1)) with
    | false =>
      rw [hex] at cond
      refine k_set (K := K) (d := .none) (ed_if cond (fun h => by cases h) (fun _ => ed_non)) fun v7 H7 s7 q7 => ?_
      cases q7.non_eq
      dsimp only
      refine k_if1 (b := false) (test (z := .merge) s7 rfl (by decide)) (fun h => by cases h) (fun _ => ?_)
      dsimp only
      refine k_if1 (b := false) (test (z := .split) s7 rfl (by decide)) (fun h => by cases h) (fun _ => ?_)
      dsimp only
      refine k_if1 (b := false) (test (z := .pass) s7 rfl (by decide)) (fun h => by cases h) (fun _ => ?_)
      dsimp only
      exact beh_tail (K := K) (wd := .exchange) (o := none) (h2.up s7) (qg.up s7) (.inl ⟨rfl, .inl rfl⟩) hl hi fun v H8 s8 q8 => fin v H7 v H8 none (hnw false hex) s7 s8 q8
    | true =>
      rw [hex] at cond
      refine k_setL (K := K) (ds := [encG (gAt c.2 (i + 1)), encG (gAt c.2 i)]) (el_if cond (fun _ => el_lst (ea_cons (ed_ix (ed_var rfl qh') ed_int rfl) (ea_cons (ed_ix (ed_var rfl qh') ed_int rfl) ea_nil)) (le_line (by simp))) (fun h => by cases h)) fun p7 w7 H7 np7 s7 hp7 t7 => ?_
      dsimp only
      refine k_if1 (b := false) (test (z := .merge) s7 rfl (by decide)) (fun h => by cases h) (fun _ => ?_)
      dsimp only
      refine k_if1 (b := false) (test (z := .split) s7 rfl (by decide)) (fun h => by cases h) (fun _ => ?_)
      dsimp only
      refine k_if1 (b := false) (test (z := .pass) s7 rfl (by decide)) (fun h => by cases h) (fun _ => ?_)
      dsimp only
      exact beh_tail (K := K) (wd := .exchange) (o := some [gAt c.2 (i + 1), gAt c.2 i]) (h2.up s7) (qg.up s7) (.inr ⟨_, p7, w7, rfl, rfl, hp7, t7, .inl (by simp), by simp⟩) hl hi fun v H8 s8 q8 => fin v H7 v H8 _ (hnw true hex) s7 s8 q8
  | merge =>
    have qh' : TD K H6 hv (.tuple [encG (gAt c.2 i), encG (gAt c.2 (i + 1))]) := by
      rw [two rfl] at qh
      exact qh
    have hi' : i + 2 ≤ c.2.length := hi
    have gf := gok i (by omega)
    have gs := gok (i + 1) (by omega)
    refine k_if1 (b := false) (et_andF (test (z := .cancel) (Same.refl _) rfl (by decide)) rfl) (fun h => by cases h) (fun _ => ?_)
    dsimp only
    refine k_if1 (b := false) (test (z := .pair) (Same.refl _) rfl (by decide)) (fun h => by cases h) (fun _ => ?_)
    dsimp only
    refine k_if1 (b := false) (test (z := .exchange) (Same.refl _) rfl (by decide)) (fun h => by cases h) (fun _ => ?_)
    dsimp only
    refine k_if1 (b := true) (test (z := .merge) (Same.refl _) rfl (by decide)) (fun _ => ?_) (fun h => by cases h)
    refine k_setL (K := K) (ds := gMerged (gAt c.2 i) (gAt c.2 (i + 1))) (el_call (ds := [encG (gAt c.2 i), encG (gAt c.2 (i + 1))]) (ea_cons (ed_ix (ed_var rfl qh') ed_int rfl) (ea_cons (ed_ix (ed_var rfl qh') ed_int rfl) ea_nil)) ⟨W, _, _, hW, gf, gs, rfl, rfl⟩) fun p7 w7 H7 np7 s7 hp7 t7 => ?_
    dsimp only
    refine k_if1 (b := false) (test (z := .split) s7 rfl (by decide)) (fun h => by cases h) (fun _ => ?_)
    dsimp only
    refine k_if1 (b := false) (test (z := .pass) s7 rfl (by decide)) (fun h => by cases h) (fun _ => ?_)
    dsimp only
    have hnw : newOf c.1 (r.headD .none) (gAt c.2 i) (gAt c.2 (i + 1)) .merge = (merged (gAt c.2 i) (gAt c.2 (i + 1))).map fun m => [m] := rfl
    unfold gMerged at t7
    cases hm : merged (gAt c.2 i) (gAt c.2 (i + 1)) with
    | none =>
      rw [hm] at t7 hnw
      cases t7
      exact beh_tail (K := K) (wd := .merge) (o := none) (h2.up s7) (qg.up s7) (.inl ⟨rfl, .inr ⟨p7, rfl, hp7, by decide⟩⟩) hl hi fun v H8 s8 q8 => fin v H7 v H8 none hnw s7 s8 q8
    | some m =>
      rw [hm] at t7 hnw
      exact beh_tail (K := K) (wd := .merge) (o := some [m]) (h2.up s7) (qg.up s7) (.inr ⟨[m], p7, w7, rfl, rfl, hp7, t7, .inl (by simp), by simp⟩) hl hi fun v H8 s8 q8 => fin v H7 v H8 _ hnw s7 s8 q8
  | split =>
    match r, hr2, hx with
    | [x], hr2, hx =>
    have hi' : i + 1 ≤ c.2.length := hi
    have qh' : TD K H6 hv (.tuple [encG (gAt c.2 i)]) := by
      have e : hereOf c i .split = [gAt c.2 i] := by
        unfold hereOf
        show List.take 1 _ = _
        rw [List.take_add_one, List.take_zero, List.getElem?_drop, Nat.add_zero, getD_at (by omega)]
        rfl
      rw [e] at qh
      exact qh
    have hx2 : ∀ {σ H'}, Same H6 H' → σ[1]? = some (some v2) → ED K (tOp (rIxT K) (tVar 1) (tC (V.int 2))) σ H' x := fun e hs => ed_ix (ed_var hs (h2.up e)) ed_int rfl
    refine k_if1 (b := false) (et_andF (test (z := .cancel) (Same.refl _) rfl (by decide)) rfl) (fun h => by cases h) (fun _ => ?_)
    dsimp only
    refine k_if1 (b := false) (test (z := .pair) (Same.refl _) rfl (by decide)) (fun h => by cases h) (fun _ => ?_)
    dsimp only
    refine k_if1 (b := false) (test (z := .exchange) (Same.refl _) rfl (by decide)) (fun h => by cases h) (fun _ => ?_)
    dsimp only
    refine k_if1 (b := false) (test (z := .merge) (Same.refl _) rfl (by decide)) (fun h => by cases h) (fun _ => ?_)
    dsimp only
    refine k_if1 (b := true) (test (z := .split) (Same.refl _) rfl (by decide)) (fun _ => ?_) (fun h => by cases h)
    have hnw : newOf c.1 ([x].headD .none) (gAt c.2 i) (gAt c.2 (i + 1)) .split = Lsp c.1 (gAt c.2 i) x := rfl
    refine k_setLO (K := K) (o := (Lsp c.1 (gAt c.2 i) x).map encL) (elo_call (ds := [.int c.1, encG (gAt c.2 i), x]) (ea_cons (ed_var rfl (.int _)) (ea_cons (ed_ix (ed_var rfl qh') ed_int rfl) (ea_cons (hx2 (Same.refl _) rfl) ea_nil))) ⟨c.1, _, x, (gok i (by omega)).gs hW, rfl, rfl⟩) (fun eo H7 s7 => ?_) (fun es eo p7 w7 H7 np7 s7 hp7 t7 => ?_)
    · have hls : Lsp c.1 (gAt c.2 i) x = none := by
        cases hz : Lsp c.1 (gAt c.2 i) x with
        | none => rfl
        | some n => rw [hz] at eo; cases eo
      dsimp only
      refine k_if1 (b := false) (test (z := .pass) s7 rfl (by decide)) (fun h => by cases h) (fun _ => ?_)
      dsimp only
      exact beh_tail (K := K) (wd := .split) (o := none) (h2.up s7) (qg.up s7) (.inl ⟨rfl, .inl rfl⟩) hl hi fun v H8 s8 q8 => fin v H7 v H8 none (hnw.trans hls) s7 s8 q8
    · obtain ⟨n, hls, hes⟩ : ∃ n, Lsp c.1 (gAt c.2 i) x = some n ∧ n.map encG = es := by
        cases hz : Lsp c.1 (gAt c.2 i) x with
        | none => rw [hz] at eo; cases eo
        | some n => rw [hz] at eo; exact ⟨n, rfl, Option.some.inj eo⟩
      subst hes
      have hn2 : n ≠ [] := fun z => by
        subst z
        unfold Lsp at hls
        split at hls
        · split at hls
          · unfold splitG at hls
            split at hls
            · cases hls
            · cases hls
          · cases hls
        · cases hls
      dsimp only
      refine k_if1 (b := false) (test (z := .pass) s7 rfl (by decide)) (fun h => by cases h) (fun _ => ?_)
      dsimp only
      exact beh_tail (K := K) (wd := .split) (o := some n) (h2.up s7) (qg.up s7) (.inr ⟨n, p7, w7, rfl, rfl, hp7, t7, .inl hn2, nl (hnw.trans hls)⟩) hl hi fun v H8 s8 q8 => fin v H7 v H8 (some n) (hnw.trans hls) s7 s8 q8
  | pass =>
    have qh' : TD K H6 hv (.tuple [encG (gAt c.2 i), encG (gAt c.2 (i + 1))]) := by
      rw [two rfl] at qh
      exact qh
    have hi' : i + 2 ≤ c.2.length := hi
    have gf := gok i (by omega)
    have gs := gok (i + 1) (by omega)
    refine k_if1 (b := false) (et_andF (test (z := .cancel) (Same.refl _) rfl (by decide)) rfl) (fun h => by cases h) (fun _ => ?_)
    dsimp only
    refine k_if1 (b := false) (test (z := .pair) (Same.refl _) rfl (by decide)) (fun h => by cases h) (fun _ => ?_)
    dsimp only
    refine k_if1 (b := false) (test (z := .exchange) (Same.refl _) rfl (by decide)) (fun h => by cases h) (fun _ => ?_)
    dsimp only
    refine k_if1 (b := false) (test (z := .merge) (Same.refl _) rfl (by decide)) (fun h => by cases h) (fun _ => ?_)
    dsimp only
    refine k_if1 (b := false) (test (z := .split) (Same.refl _) rfl (by decide)) (fun h => by cases h) (fun _ => ?_)
    dsimp only
    refine k_if1 (b := true) (test (z := .pass) (Same.refl _) rfl (by decide)) (fun _ => ?_) (fun h => by cases h)
    refine k_setL (K := K) (ds := gPassed (gAt c.2 i) (gAt c.2 (i + 1))) (el_call (ds := [encG (gAt c.2 i), encG (gAt c.2 (i + 1))]) (ea_cons (ed_ix (ed_var rfl qh') ed_int rfl) (ea_cons (ed_ix (ed_var rfl qh') ed_int rfl) ea_nil)) ⟨W, _, _, hW, gf, gs, rfl, rfl⟩) fun p7 w7 H7 np7 s7 hp7 t7 => ?_
    dsimp only
    have hnw : newOf c.1 (r.headD .none) (gAt c.2 i) (gAt c.2 (i + 1)) .pass = (passed (gAt c.2 i) (gAt c.2 (i + 1))).map fun m => [gAt c.2 (i + 1), gAt c.2 i, m] := rfl
    unfold gPassed at t7
    cases hm : passed (gAt c.2 i) (gAt c.2 (i + 1)) with
    | none =>
      rw [hm] at t7 hnw
      cases t7
      exact beh_tail (K := K) (wd := .pass) (o := none) (h2.up s7) (qg.up s7) (.inl ⟨rfl, .inr ⟨p7, rfl, hp7, by decide⟩⟩) hl hi fun v H8 s8 q8 => fin v H7 v H8 none hnw s7 s8 q8
    | some m =>
      rw [hm] at t7 hnw
      exact beh_tail (K := K) (wd := .pass) (o := some [gAt c.2 (i + 1), gAt c.2 i, m]) (h2.up s7) (qg.up s7) (.inr ⟨[gAt c.2 (i + 1), gAt c.2 i, m], p7, w7, rfl, rfl, hp7, t7, .inl (by simp), by simp⟩) hl hi fun v H8 s8 q8 => fin v H7 v H8 _ hnw s7 s8 q8
end
end Bk

set_option Elab.async false
set_option linter.all false
set_option maxRecDepth 100000
set_option maxHeartbeats 4000000
namespace Bk
open PySem PySem.Spec PyProof.Rows L2

local macro_rules | `(tactic| walk_at "ed") => `(tactic| first
  | assumption
  | exact ed_int | exact ed_bl | exact ed_non | exact ed_str | exact ea_nil | exact ep_none | exact et_yes
  | (apply ed_var rfl; assumption)
  | (apply ea_cons; walk_at "ed"; walk_at "ed")
  | (apply ed_ix; walk_at "ed"; walk_at "ed"; rfl)
  | (apply et_B; walk_at "ed")
  | (apply et_T; walk_at "ed")
  | (apply ed_tup; walk_at "ed"; (apply le_line; simp only [List.length_cons, List.length_nil]; omega))
  | (apply ed_eqI; walk_at "ed"; walk_at "ed")
  | (apply ed_neI; walk_at "ed"; walk_at "ed")
  | (apply ed_eqS; walk_at "ed"; walk_at "ed")
  | (apply ed_neS; walk_at "ed"; walk_at "ed")
  | (apply ed_I0; walk_at "ed"; walk_at "ed")
  | (apply ed_B0; walk_at "ed"; walk_at "ed")
  | (apply ed_neg; walk_at "ed")
  | (apply ed_isN; walk_at "ed")
  | (apply ed_notN; walk_at "ed")
  | (apply ed_lenT; walk_at "ed")
  | (apply ep_some; walk_at "ed")
  | (apply ed_sl; walk_at "ed"; walk_at "ed"; walk_at "ed")
  | (apply el_lst; walk_at "ed"; (apply le_line; simp only [List.length_cons, List.length_nil]; omega))
  | (apply ed_tupL; walk_at "ed")
  | (apply et_not; walk_at "ed")
  | (apply ed_notV; walk_at "ed")
  | (apply ed_isInt; walk_at "ed")
  | (apply ed_isBool; walk_at "ed")
  | (apply ed_isTup; walk_at "ed")
  | (apply ed_isStr; walk_at "ed")
  | (apply ed_andF; walk_at "ed"; rfl)
  | (apply ed_andT; walk_at "ed"; rfl; walk_at "ed")
  | (apply ed_orT; walk_at "ed"; rfl)
  | (apply ed_orF; walk_at "ed"; rfl; walk_at "ed")
  | (apply et_andF; walk_at "ed"; rfl)
  | (apply et_andT; walk_at "ed"; rfl; walk_at "ed")
  | (apply et_orT; walk_at "ed"; rfl)
  | (apply et_orF; walk_at "ed"; rfl; walk_at "ed")
  | (apply ed_andV; walk_at "ed"; (intro _; walk_at "ed"))
  | (apply ed_orV; walk_at "ed"; (intro _; walk_at "ed"))
  | (apply et_and; walk_at "ed"; (intro _; walk_at "ed"))
  | (apply et_or; walk_at "ed"; (intro _; walk_at "ed")))

section
variable {K : PySem.W.Frag} {H H' : Hp} {σ : L2.St} {ta tb te : TE}
/-! ### the draw object -/
structure DrA (H : Hp) (p l : Addr) (ns : List Int) (i c s : Int) : Prop where
  at_ : H p = some (.lst [.ref l, .int i, .int c, .int s])
  ns_ : H l = some (.lst (ns.map V.int))
  ne : l ≠ p
  i0 : -1 ≤ i
  c0 : 0 ≤ c
  s0 : 0 ≤ s
  n0 : ∀ n ∈ ns, 0 ≤ n
  nl : ns.length ≤ 100
def DR (H : Hp) (p l : Addr) : Prop := ∃ ns i c s, DrA H p l ns i c s
def Kp (p : Addr) (H H' : Hp) : Prop := ∀ b o, b ≠ p → H b = some o → H' b = some o
theorem Kp.refl (p : Addr) (H : Hp) : Kp p H H := fun _ _ _ h => h
theorem Kp.trans {p : Addr} {A B C : Hp} (h : Kp p A B) (k : Kp p B C) : Kp p A C := fun b o n e => k b o n (h b o n e)
theorem Kp.of {p : Addr} {A B : Hp} (h : Same A B) : Kp p A B := fun b o _ e => h b o e
theorem Kp.upd {p : Addr} {A B : Hp} {o : HO} (h : Kp p A B) : Kp p A (upd B p o) := fun b u n e => by
  rw [upd_ne n]
  exact h b u n e
theorem DrA.up {p l : Addr} {ns : List Int} {i c s : Int} (h : DrA H p l ns i c s) (e : Same H H') : DrA H' p l ns i c s := ⟨e _ _ h.at_, e _ _ h.ns_, h.ne, h.i0, h.c0, h.s0, h.n0, h.nl⟩
theorem DR.up {p l : Addr} (h : DR H p l) (e : Same H H') : DR H' p l := by
  obtain ⟨ns, i, c, s, h⟩ := h
  exact ⟨ns, i, c, s, h.up e⟩
theorem DR.upd {p l q : Addr} {o : HO} (h : DR H p l) (n1 : q ≠ p) (n2 : q ≠ l) : DR (upd H q o) p l := by
  obtain ⟨ns, i, c, s, h⟩ := h
  exact ⟨ns, i, c, s, by rw [upd_ne (Ne.symm n1)]; exact h.at_, by rw [upd_ne (Ne.symm n2)]; exact h.ns_, h.ne, h.i0, h.c0, h.s0, h.n0, h.nl⟩
theorem DR.fresh {p l q : Addr} (h : DR H p l) (n : H q = none) : q ≠ p ∧ q ≠ l := by
  obtain ⟨ns, i, c, s, h⟩ := h
  refine ⟨fun z => ?_, fun z => ?_⟩
  · rw [z, h.at_] at n
    cases n
  · rw [z, h.ns_] at n
    cases n
theorem DrA.put {p l : Addr} {ns : List Int} {i c s i' c' s' : Int} (h : DrA H p l ns i c s) (hi : -1 ≤ i') (hc : 0 ≤ c') (hs : 0 ≤ s') : DrA (upd H p (.lst [.ref l, .int i', .int c', .int s'])) p l ns i' c' s' :=
  ⟨upd_same, by rw [upd_ne h.ne]; exact h.ns_, h.ne, hi, hc, hs, h.n0, h.nl⟩
theorem DrA.td {p l : Addr} {ns : List Int} {i c s : Int} (h : DrA H p l ns i c s) : TDs K H [.ref l, .int i, .int c, .int s] [.list [], .int i, .int c, .int s] := .cons (.lst h.ns_) (.cons (.int _) (.cons (.int _) (.cons (.int _) .nil)))
theorem ev_ixV {p : Addr} {xs : List V} {v : V} {i : Int} (hp : H p = some (.lst xs)) (hd : EV ta σ H (.ref p)) (hi : ED K tb σ H (.int i)) (h : atI xs i = some v) : EV (tOp (rIxL K) ta tb) σ H v := fun H1 a Q k =>
  hd H1 a _ fun H2 b => ev_int hi H2 (a.trans b) _ fun H3 c => ⟨p, xs, i, v, rfl, rfl, .inl (.inl (((a.trans b).trans c) _ _ hp)), h, k H3 (b.trans c)⟩
def rInt1 : List V → Hp → VK → Prop := fun xs H Q => (∃ i, xs = [.int i] ∧ Q (.int i) H) ∨ ∃ k, xs = [.bl k] ∧ Q (.int (if k = true then 1 else 0)) H
theorem ed_int1 {i : Int} (ha : ED K ta σ H (.int i)) : ED K (tCB rInt1 (tCons ta tNil)) σ H (.int i) := fun H1 a Q k => ev_int ha H1 a _ fun H2 b => .inl ⟨i, rfl, k _ H2 b (.int _)⟩
def rAbs1 : List V → Hp → VK → Prop := fun xs H Q => ∃ i, xs = [.int i] ∧ Q (.int (if i < 0 then -i else i)) H
theorem ed_abs1 {i : Int} (ha : ED K ta σ H (.int i)) : ED K (tCB rAbs1 (tCons ta tNil)) σ H (.int (if i < 0 then -i else i)) := fun H1 a Q k => ev_int ha H1 a _ fun H2 b => ⟨i, rfl, k _ H2 b (.int _)⟩
theorem k_lsetI {td ti : TE} {D : Ends} {p : Addr} {xs ys : List V} {x i : Int} {j : Nat} (hp : H p = some (.lst xs)) (h : ED K te σ H (.int x)) (hd : EV td σ H (.ref p)) (hi : ED K ti σ H (.int i)) (hj : ixN xs.length i = some j) (hy : xs.set j (.int x) = ys)
    (k : ∀ H1, Same H H1 → D.nx σ (upd H1 p (.lst ys))) : KP (tAsg te (gSub td ti rSetL) D) σ H := k_lset (K := K) hp h hd hi hj fun v H1 s q => by
  rw [q.int_eq, hy]
  exact k H1 s
/-! ### readings that may take from the draw at p -/
structure Wk (p l : Addr) (H H' : Hp) : Prop where
  d0 : DR H p l
  d1 : DR H' p l
  k : Kp p H H'
theorem Wk.refl {p l : Addr} (h : DR H p l) : Wk p l H H := ⟨h, h, Kp.refl p H⟩
theorem Wk.trans {p l : Addr} {A B C : Hp} (h : Wk p l A B) (k : Wk p l B C) : Wk p l A C := ⟨h.d0, k.d1, h.k.trans k.k⟩
theorem Wk.of {p l : Addr} (h : DR H p l) (e : Same H H') : Wk p l H H' := ⟨h, h.up e, Kp.of e⟩
theorem Wk.add {p l : Addr} {A B C : Hp} (h : Wk p l A B) (e : Same B C) : Wk p l A C := h.trans (Wk.of h.d1 e)
theorem Wk.mut {p l q : Addr} {A B : Hp} {o : HO} (h : Wk p l A B) (n : A q = none) : Wk p l A (upd B q o) := ⟨h.d0, h.d1.upd (h.d0.fresh n).1 (h.d0.fresh n).2, fun b u nb e => by
  have nq : b ≠ q := fun z => by rw [z, n] at e; cases e
  rw [upd_ne nq]
  exact h.k b u nb e⟩
theorem Wk.wx {p l : Addr} (h : Wk p l H H') : Wx H H' := by
  obtain ⟨ns, i, c, s, h0⟩ := h.d0
  obtain ⟨ns', i', c', s', h1⟩ := h.d1
  refine ⟨fun a o xs e => ?_, fun a xs e => ?_⟩
  · refine h.k _ _ (fun z => ?_) e
    rw [z, h0.at_] at e
    cases e
  · by_cases z : a = p
    · exact ⟨_, z ▸ h1.at_⟩
    · exact ⟨xs, h.k _ _ z e⟩
/-- a promise: takes from the draw at its first value -/
def spT (K : PySem.W.Frag) (n : Nat) (Dm : List PyData → Prop) (R : List PyData → PyData → Prop) : Sp := fun vs H Q _ => vs.length = n ∧ ∃ p l rest ds, vs = .ref p :: rest ∧ DR H p l ∧ TDs K H rest ds ∧ Dm ds ∧ ∀ v d H', Wk p l H H' → TD K H' v d → R ds d → Q v H'
def D_take (ds : List PyData) : Prop := ∃ m : Int, 1 ≤ m ∧ m ≤ 100000 ∧ ds = [.int m]
def R_take (ds : List PyData) (d : PyData) : Prop := ∀ m : Int, ds = [.int m] → ∃ i : Int, d = .int i ∧ 0 ≤ i ∧ i < m
end
section
variable {P : Program} {w : World} {K : PySem.W.Frag} {mg : Str → Option Value} {base : Heap}
abbrev NL_take : List Str := ["_law_draw_here", "_law_many", "_law_found"]
theorem scL_take : FnScope NL_take ["_law_draw_here", "_law_many"] (defScope sL_take) := ⟨rfl, rfl, rfl, by decide +kernel, rfl, by decide +kernel, by decide +kernel⟩
theorem ok_take (T : Fx mg) (D : Df K mg "_law_take" sL_take) : Cl P w K mg base 1 "_law_take" (spT K 2 D_take R_take) := by
  refine cl_mk D scL_take (fun _ _ _ _ h => h.1) (fun _ _ _ _ _ _ us hl => match us, hl with | [_, _], _ => rfl) ?_
  intro f cdv A outer s H vs Q E hr h
  obtain ⟨hl, p, l, rest, ds, rfl, hdr, ht, hD, q⟩ := h
  obtain ⟨m, hm, hm2, rfl⟩ := hD
  obtain ⟨v2, rfl, h2⟩ := ht.one
  cases h2.int_eq
  obtain ⟨ns, i, c, sd, dr⟩ := hdr
  have q : ∀ (r : Int) H' i' c' s', DrA H' p l ns i' c' s' → Kp p H H' → 0 ≤ r → r < m → Q (.int r) H' := fun r H' i' c' s' d k r0 r1 => q (.int r) (.int r) H' ⟨⟨ns, i, c, sd, dr⟩, ⟨ns, i', c', s', d⟩, k⟩ (.int r) fun m' e => by
    injection e with e
    injection e with e
    rw [← e]
    exact ⟨r, rfl, r0, r1⟩
  refine ⟨_, (Evl.pss_cut (ps_if (pt_cmpR op_eq (pe_ix (kx_list (K := K)) (pv 0) pe_int (fun _ _ => rfl)) pe_int (nomark _)) (pss_cons (ps_asg (pe_op op_add (pe_ix (kx_list (K := K)) (pv 0) pe_int (fun _ _ => rfl)) pe_int) (pg_sub (pv 0) pe_int set_list))
        (Evl.pss_cut (ps_if (pt_cmpR op_lt (pe_ix (kx_list (K := K)) (pv 0) pe_int (fun _ _ => rfl)) (pe_callB (kc_len (K := K)) (by rfl) T.len bt_len (pa_cons (pe_ix (kx_list (K := K)) (pv 0) pe_int (fun _ _ => rfl)) pa_nil)) (nomark _)) (pss_one (ps_asg (pe_ix (kx_list (K := K)) (pe_ix (kx_list (K := K)) (pv 0) pe_int (fun _ _ => rfl)) (pe_ix (kx_list (K := K)) (pv 0) pe_int (fun _ _ => rfl)) (fun _ _ => rfl)) (pg_sub (pv 0) pe_int set_list))) pss_nil)
        (pss_one (ps_if (pt_cmpR op_eq (pe_ix (kx_list (K := K)) (pv 0) pe_int (fun _ _ => rfl)) pe_int (nomark _)) (pss_cons (ps_asg (pe_op op_mod (pe_callTy call_int1 (by rfl) T.int bt_int (pa_cons (pe_op op_add (pe_op op_mul (pe_ix (kx_list (K := K)) (pv 0) pe_int (fun _ _ => rfl)) pe_int) pe_int) pa_nil)) pe_int) (pg_sub (pv 0) pe_int set_list))
          (pss_one (ps_asg (pe_ix (kx_list (K := K)) (pv 0) pe_int (fun _ _ => rfl)) (pg_sub (pv 0) pe_int set_list)))) pss_nil)))) pss_nil)
      (pss_cons (ps_set (i := 2) scL_take.nd rfl (.inl rfl) (pe_op op_mod (pe_callTy call_int1 (by rfl) T.int bt_int (pa_cons (pe_ix (kx_list (K := K)) (pv 0) pe_int (fun _ _ => rfl)) pa_nil)) (pv 1)))
      (pss_cons (ps_asg (pe_op op_fdivN (pe_ix (kx_list (K := K)) (pv 0) pe_int (fun _ _ => rfl)) (pv 1)) (pg_sub (pv 0) pe_int set_list))
      (pss_one (ps_ret (pv 2)))))), ?_⟩
  refine k_at ?_
  show KP _ [some (.ref p), some (.int m), none] H
  have g2 : ∀ {H' i' c' s'} {σ : L2.St}, DrA H' p l ns i' c' s' → σ[0]? = some (some (.ref p)) → ED K (tOp (rIxL K) (tVar 0) (tC (V.int 2))) σ H' (.int c') := fun d hs => ed_ixV d.at_ d.td (ev_var hs) ed_int rfl
  have g1 : ∀ {H' i' c' s'} {σ : L2.St}, DrA H' p l ns i' c' s' → σ[0]? = some (some (.ref p)) → ED K (tOp (rIxL K) (tVar 0) (tC (V.int 1))) σ H' (.int i') := fun d hs => ed_ixV d.at_ d.td (ev_var hs) ed_int rfl
  have g3 : ∀ {H' i' c' s'} {σ : L2.St}, DrA H' p l ns i' c' s' → σ[0]? = some (some (.ref p)) → ED K (tOp (rIxL K) (tVar 0) (tC (V.int 3))) σ H' (.int s') := fun d hs => ed_ixV d.at_ d.td (ev_var hs) ed_int rfl
  have g0 : ∀ {H' i' c' s'} {σ : L2.St}, DrA H' p l ns i' c' s' → σ[0]? = some (some (.ref p)) → EV (tOp (rIxL K) (tVar 0) (tC (V.int 0))) σ H' (.ref l) := fun d hs => ev_ixV (K := K) d.at_ (ev_var hs) ed_int rfl
  refine k_cut (fun σ' H' => ∃ i c sd, σ' = [some (.ref p), some (.int m), none] ∧ DrA H' p l ns i c sd ∧ Kp p H H') ?_ ?_
  · refine k_if1 (b := decide (c = 0)) (et_T (K := K) (ed_eqI (g2 dr rfl) ed_int)) (fun hb => ?_) (fun hb => ?_)
    · refine k_seq (k_lsetI (K := K) (x := i + 1) (ys := [.ref l, .int (i + 1), .int c, .int sd]) (j := 1) dr.at_ (ed_I0 (g1 dr rfl) ed_int) (ev_var rfl) ed_int rfl rfl fun H1 s1 => ?_)
      have i0 := dr.i0
      have d1 : DrA (upd H1 p (.lst [.ref l, .int (i + 1), .int c, .int sd])) p l ns (i + 1) c sd := (dr.up s1).put (by omega) dr.c0 dr.s0
      have k1 : Kp p H (upd H1 p (.lst [.ref l, .int (i + 1), .int c, .int sd])) := (Kp.of s1).upd
      dsimp only
      generalize upd H1 p (.lst [.ref l, .int (i + 1), .int c, .int sd]) = H2 at d1 k1
      apply k_at
      refine k_cut (fun σ' H' => ∃ i c sd, σ' = [some (.ref p), some (.int m), none] ∧ DrA H' p l ns i c sd ∧ Kp p H H') ?_ ?_
      · refine k_if1 (b := decide (i + 1 < (ns.length : Int))) (et_is (et_T (K := K) (ed_B0 (g1 d1 rfl) (ed_lenV d1.ns_ (g0 d1 rfl)))) (by rw [List.length_map])) (fun hb => ?_) (fun hb => ?_)
        · have hlt := of_decide_eq_true hb
          have hn : atI (ns.map V.int) (i + 1) = some (.int (ns.getD (i + 1).toNat 0)) := by
            refine atI_of (by omega) ?_
            rw [List.getElem?_map, List.getD_eq_getElem?_getD, List.getElem?_eq_getElem (by omega)]
            rfl
          have hn0 : 0 ≤ ns.getD (i + 1).toNat 0 := by
            rw [List.getD_eq_getElem?_getD, List.getElem?_eq_getElem (by omega)]
            exact d1.n0 _ (List.getElem_mem _)
          refine k_lsetI (K := K) (x := ns.getD (i + 1).toNat 0) (ys := [.ref l, .int (i + 1), .int (ns.getD (i + 1).toNat 0), .int sd]) (j := 2) d1.at_ (ed_ev (ev_ixV (K := K) d1.ns_ (g0 d1 rfl) (g1 d1 rfl) hn) (.int _)) (ev_var rfl) ed_int rfl rfl fun H3 s3 => ?_
          exact ⟨i + 1, _, sd, rfl, (d1.up s3).put d1.i0 hn0 d1.s0, (k1.trans (Kp.of s3)).upd⟩
        · exact k_mid fun H3 s3 => ⟨_, _, _, rfl, d1.up s3, k1.trans (Kp.of s3)⟩
      · rintro σ' H3 ⟨i, c, sd, rfl, d3, k3⟩
        apply k_at
        refine k_if1 (b := decide (c = 0)) (et_T (K := K) (ed_eqI (g2 d3 rfl) ed_int)) (fun hb => ?_) (fun hb => ?_)
        · have hs : 0 ≤ (sd * 48271 + 11) % 2147483647 := Int.emod_nonneg _ (by decide)
          refine k_seq (k_lsetI (K := K) (x := (sd * 48271 + 11) % 2147483647) (ys := [.ref l, .int i, .int c, .int ((sd * 48271 + 11) % 2147483647)]) (j := 3) d3.at_ (ed_I (ed_int1 (ed_I0 (ed_I (g3 d3 rfl) ed_int (.inr ⟨by decide, by decide⟩)) ed_int)) ed_int (by decide)) (ev_var rfl) ed_int rfl rfl fun H4 s4 => ?_)
          have d4 : DrA (upd H4 p (.lst [.ref l, .int i, .int c, .int ((sd * 48271 + 11) % 2147483647)])) p l ns i c ((sd * 48271 + 11) % 2147483647) := (d3.up s4).put d3.i0 d3.c0 hs
          have k4 : Kp p H (upd H4 p (.lst [.ref l, .int i, .int c, .int ((sd * 48271 + 11) % 2147483647)])) := (k3.trans (Kp.of s4)).upd
          dsimp only
          generalize upd H4 p (.lst [.ref l, .int i, .int c, .int ((sd * 48271 + 11) % 2147483647)]) = H5 at d4 k4
          apply k_at
          refine k_lsetI (K := K) (x := (sd * 48271 + 11) % 2147483647) (ys := [.ref l, .int i, .int ((sd * 48271 + 11) % 2147483647), .int ((sd * 48271 + 11) % 2147483647)]) (j := 2) d4.at_ (g3 d4 rfl) (ev_var rfl) ed_int rfl rfl fun H6 s6 => ?_
          exact ⟨i, _, _, rfl, (d4.up s6).put d4.i0 hs hs, (k4.trans (Kp.of s6)).upd⟩
        · exact k_mid fun H4 s4 => ⟨_, _, _, rfl, d3.up s4, k3.trans (Kp.of s4)⟩
    · exact k_mid fun H4 s4 => ⟨_, _, _, rfl, dr.up s4, Kp.of s4⟩
  · rintro σ' H3 ⟨i, c, sd, rfl, d3, k3⟩
    apply k_at
    refine k_set (K := K) (d := .int (c % m)) (ed_I (ed_int1 (g2 d3 rfl)) (ed_var rfl (.int _)) (by omega)) fun v H4 s4 q4 => ?_
    cases q4.int_eq
    have d4 := d3.up s4
    dsimp only
    have c0 := d4.c0
    refine k_seq (k_lsetI (K := K) (x := c.fdiv m) (ys := [.ref l, .int i, .int (c.fdiv m), .int sd]) (j := 2) d4.at_ (ed_I (g2 d4 rfl) (ed_var rfl (.int _)) ?_) (ev_var rfl) ed_int rfl rfl fun H5 s5 => ?_)
    · exact ⟨by omega, by omega⟩
    have d5 : DrA (upd H5 p (.lst [.ref l, .int i, .int (c.fdiv m), .int sd])) p l ns i (c.fdiv m) sd := (d4.up s5).put d4.i0 (Int.fdiv_nonneg c0 (by omega)) d4.s0
    have k5 : Kp p H (upd H5 p (.lst [.ref l, .int i, .int (c.fdiv m), .int sd])) := ((k3.trans (Kp.of s4)).trans (Kp.of s5)).upd
    dsimp only
    generalize upd H5 p (.lst [.ref l, .int i, .int (c.fdiv m), .int sd]) = H6 at d5 k5
    apply k_at
    refine k_ret (K := K) (d := .int (c % m)) (ed_var rfl (.int _)) fun v H7 s7 q7 => ?_
    cases q7.int_eq
    exact q (c % m) H7 _ _ _ (d5.up s7) (k5.trans (Kp.of s7)) (Int.emod_nonneg _ (by omega)) (Int.emod_lt_of_pos _ (by omega))
end
end Bk

set_option Elab.async false
set_option linter.all false
set_option maxRecDepth 100000
set_option maxHeartbeats 4000000
/-! Readings that take from the draw. -/
namespace Bk
open PySem PySem.Spec PyProof.Rows L2
section
variable {K : PySem.W.Frag} {H H' : Hp} {σ : L2.St} {ta tb te : TE} {tt t u : TT} {tr : TA} {p l : Addr} {D : Ends}
/-- a reading that may take from the draw: R tells of what comes -/
def EWd (K : PySem.W.Frag) (p l : Addr) (te : TE) (σ : L2.St) (H : Hp) (R : PyData → Prop) : Prop := ∀ H1, Wk p l H H1 → ∀ Q : VK, (∀ v d H2, Wk p l H1 H2 → TD K H2 v d → R d → Q v H2) → te σ H1 Q
def EWa (K : PySem.W.Frag) (p l : Addr) (tr : TA) (σ : L2.St) (H : Hp) (R : List PyData → Prop) : Prop := ∀ H1, Wk p l H H1 → ∀ Q : List V → Hp → Prop, (∀ vs ds H2, Wk p l H1 H2 → TDs K H2 vs ds → R ds → Q vs H2) → tr σ H1 Q
def EWt (p l : Addr) (tt : TT) (σ : L2.St) (H : Hp) (C : Bool → Prop) : Prop := ∀ H1, Wk p l H H1 → ∀ Q : Bool → Hp → Prop, (∀ b H2, Wk p l H1 H2 → C b → Q b H2) → tt σ H1 Q
theorem ew_pure {d : PyData} (h : ∀ H1, Wk p l H H1 → ED K te σ H1 d) : EWd K p l te σ H (fun e => e = d) := fun H1 w Q k => h H1 w H1 (Same.refl _) Q fun v H2 s q => k v d H2 (Wk.of w.d1 s) q rfl
theorem ew_imp {R R' : PyData → Prop} (h : EWd K p l te σ H R) (i : ∀ d, R d → R' d) : EWd K p l te σ H R' := fun H1 w Q k => h H1 w Q fun v d H2 w2 q r => k v d H2 w2 q (i d r)
theorem ewa_nil : EWa K p l tNil σ H (fun ds => ds = []) := fun H1 w Q k => k [] [] H1 (Wk.refl w.d1) .nil rfl
theorem ewa_cons {R1 : PyData → Prop} {R2 : List PyData → Prop} (h1 : EWd K p l ta σ H R1) (h2 : EWa K p l tr σ H R2) : EWa K p l (tCons ta tr) σ H (fun ds => ∃ d r, ds = d :: r ∧ R1 d ∧ R2 r) := fun H1 w Q k =>
  h1 H1 w _ fun v d H2 w2 q r => h2 H2 (w.trans w2) _ fun vs ds H3 w3 qs rs => k (v :: vs) (d :: ds) H3 (w2.trans w3) (.cons (q.w w3.wx) qs) ⟨d, ds, rfl, r, rs⟩
theorem ewa_pure {ds : List PyData} (h : ∀ H1, Wk p l H H1 → EA K tr σ H1 ds) : EWa K p l tr σ H (fun es => es = ds) := fun H1 w Q k => h H1 w H1 (Same.refl _) Q fun vs H2 s q => k vs ds H2 (Wk.of w.d1 s) q rfl
theorem ew_tup {R : List PyData → Prop} (h : EWa K p l tr σ H R) (hl : ∀ ds, R ds → ds.length ≤ 1000) : EWd K p l (tTupP tr) σ H (fun d => ∃ ds, d = .tuple ds ∧ R ds) := fun H1 w Q k => h H1 w _ fun vs ds H2 w2 q r =>
  ⟨by rw [q.len]; exact le_line (Nat.le_trans (hl ds r) (by decide)), fun a o na no => k _ (.tuple ds) _ (w2.add (same_new na)) (.tup (pt_new no) (q.up (same_new na))) ⟨ds, rfl, r⟩⟩
theorem ew_call {n a : Nat} {Dm : List PyData → Prop} {R : List PyData → PyData → Prop} {E : XK} {ds : List PyData} (ha : σ[a]? = some (some (.ref p))) (hr : ∀ H1, Wk p l H H1 → EA K tr σ H1 ds) (hD : Dm ds) (hn : ds.length + 1 = n := by rfl) :
    EWd K p l (tCall (spT K n Dm R) [] E (tCons (tVar a) tr)) σ H (R ds) := fun H1 w Q k =>
  ⟨.ref p, ha, hr H1 w H1 (Same.refl _) _ fun vs H2 s q => ⟨by rw [List.append_nil, List.length_cons, q.len]; exact hn, p, l, vs, ds, by rw [List.append_nil], w.d1.up s, q, hD, fun v d H3 w3 qd r => k v d H3 ((Wk.of w.d1 s).trans w3) qd r⟩⟩
def IntIn (m : Int) (d : PyData) : Prop := ∃ i : Int, d = .int i ∧ 0 ≤ i ∧ i < m
theorem ew_take {a : Nat} {E : XK} {m : Int} (ha : σ[a]? = some (some (.ref p))) (hb : ∀ H1, Wk p l H H1 → ED K tb σ H1 (.int m)) (hm : 1 ≤ m) (hm2 : m ≤ 100000) : EWd K p l (tCall (spT K 2 D_take R_take) [] E (tCons (tVar a) (tCons tb tNil))) σ H (IntIn m) :=
  ew_imp (ew_call ha (fun H1 w => ea_cons (hb H1 w) ea_nil) ⟨m, hm, hm2, rfl⟩) fun d r => r m rfl
theorem ew_addL {x m : Int} (h : EWd K p l ta σ H (IntIn m)) : EWd K p l (tOp (rI0 fun i j => .int (i + j)) (tC (.int x)) ta) σ H (fun d => ∃ i : Int, d = .int (x + i) ∧ 0 ≤ i ∧ i < m) := fun H1 w Q k =>
  h H1 w _ fun v d H2 w2 q ⟨i, hd, h0, h1⟩ => by
    subst hd
    cases q.int_eq
    exact ⟨x, i, rfl, rfl, k _ _ H2 w2 (.int _) ⟨i, rfl, h0, h1⟩⟩
theorem ewt_pure {b : Bool} (h : ∀ H1, Wk p l H H1 → ET tt σ H1 b) : EWt p l tt σ H (fun c => c = b) := fun H1 w Q k => h H1 w H1 (Same.refl _) Q fun H2 s => k b H2 (Wk.of w.d1 s) rfl
theorem ewt_eqI {m x : Int} (h : EWd K p l ta σ H (IntIn m)) : EWt p l (tTest (tOp rEq ta (tC (.int x)))) σ H (fun _ => True) := fun H1 w Q k =>
  h H1 w _ fun v d H2 w2 q ⟨i, hd, h0, h1⟩ => by
    subst hd
    cases q.int_eq
    exact et_T (K := K) (σ := σ) (ed_eqI (ed_ev (K := K) (ev_c (v := .int i)) (.int i)) ed_int) H2 (Same.refl _) _ fun H3 s => k _ H3 (w2.add s) trivial
theorem ewt_cmp {m x : Int} {g : Int → Int → Bool} (h : EWd K p l ta σ H (IntIn m)) : EWt p l (tTest (tOp (rI0 fun i j => .bl (g i j)) ta (tC (.int x)))) σ H (fun _ => True) := fun H1 w Q k =>
  h H1 w _ fun v d H2 w2 q ⟨i, hd, h0, h1⟩ => by
    subst hd
    cases q.int_eq
    exact ⟨i, x, rfl, rfl, _, rfl, k _ H2 w2 trivial⟩
theorem ewt_and {a : Bool} {C : Bool → Prop} (h1 : ∀ H1, Wk p l H H1 → ET t σ H1 a) (h2 : a = true → EWt p l u σ H C) : EWt p l (tAnd t u) σ H (fun b => b = true → a = true ∧ C true) := fun H1 w Q k =>
  h1 H1 w H1 (Same.refl _) _ fun H2 s => by
    cases a with
    | true => exact h2 rfl H2 (w.add s) Q fun b H3 w3 c => k b H3 ((Wk.of w.d1 s).trans w3) fun e => ⟨rfl, e ▸ c⟩
    | false => exact k false H2 (Wk.of w.d1 s) fun e => by cases e
/-- a list display, looked up at a place that is taken -/
theorem ew_ixL {R : List PyData → Prop} {m : Nat} (h : EWa K p l tr σ H R) (hi : EWd K p l tb σ H (IntIn m)) (hl : ∀ ds, R ds → ds.length = m) (hm : m ≤ 1000) : EWd K p l (tOp (rIxL K) (tLst tr) tb) σ H (fun d => ∃ ds, R ds ∧ d ∈ ds) := fun H1 w Q k =>
  h H1 w _ fun vs ds H2 w2 q r => ⟨by rw [q.len, hl ds r]; exact le_line (Nat.le_trans hm (by decide)), fun a na => hi _ (w.trans (w2.add (same_new na))) _ fun v d H3 w3 qd ⟨i, hd, h0, h1⟩ => by
    subst hd
    cases qd.int_eq
    have nap := (w2.d1.fresh na).1
    have hlen := hl ds r
    have e1 : ds[i.toNat]? = some (ds[i.toNat]'(by omega)) := List.getElem?_eq_getElem (by omega)
    obtain ⟨y, y1, y2⟩ := q.get e1
    exact ⟨a, vs, i, y, rfl, rfl, .inl (.inl (w3.k _ _ nap upd_same)), atI_of h0 y1, k y _ H3 ((w2.add (same_new na)).trans w3) ((y2.up (same_new na)).w w3.wx) ⟨ds, r, List.getElem_mem _⟩⟩⟩
/-- a list that stands, looked up at a place that is taken -/
theorem ew_ixV {q : Addr} {ws : List V} {ds : List PyData} {m a : Nat} (hq : H q = some (.lst ws)) (nq : q ≠ p) (ht : TDs K H ws ds) (hs : σ[a]? = some (some (.ref q))) (hi : EWd K p l tb σ H (IntIn m)) (hl : ds.length = m) : EWd K p l (tOp (rIxL K) (tVar a) tb) σ H (fun d => d ∈ ds) := fun H1 w Q k =>
  ⟨.ref q, hs, hi H1 w _ fun v d H3 w3 qd ⟨i, hd, h0, h1⟩ => by
    subst hd
    cases qd.int_eq
    have e1 : ds[i.toNat]? = some (ds[i.toNat]'(by omega)) := List.getElem?_eq_getElem (by omega)
    obtain ⟨y, y1, y2⟩ := ht.get e1
    exact ⟨q, ws, i, y, rfl, rfl, .inl (.inl ((w.trans w3).k _ _ nq hq)), atI_of h0 y1, k y _ H3 w3 (y2.w (w.trans w3).wx) (List.getElem_mem _)⟩⟩
/-! statements -/
theorem kw_set {i : Nat} {R : PyData → Prop} (hd : DR H p l) (h : EWd K p l te σ H R) (k : ∀ v d H1, Wk p l H H1 → TD K H1 v d → R d → KP D.nx (σ.set i (some v)) H1) : KP (tAsg te (gName i) D) σ H := fun H1 s =>
  h H1 (Wk.of hd s) _ fun v d H2 w q r => k v d H2 ((Wk.of hd s).trans w) q r H2 (Same.refl _)
theorem kw_ret {R : PyData → Prop} (hd : DR H p l) (h : EWd K p l te σ H R) (k : ∀ v d H1, Wk p l H H1 → TD K H1 v d → R d → D.rt v H1) : KP (tRet te D) σ H := fun H1 s =>
  h H1 (Wk.of hd s) _ fun v d H2 w q r => k v d H2 ((Wk.of hd s).trans w) q r
theorem kw_if {ts us : TS} {C : Bool → Prop} (hd : DR H p l) (h : EWt p l tt σ H C) (h1 : ∀ H1, Wk p l H H1 → C true → KP (ts D) σ H1) (h2 : ∀ H1, Wk p l H H1 → C false → KP (us D) σ H1) : KP (tIfS tt ts us D) σ H := fun H1 s =>
  h H1 (Wk.of hd s) _ fun b H2 w c => by
    cases b with
    | true => exact h1 H2 ((Wk.of hd s).trans w) c H2 (Same.refl _)
    | false => exact h2 H2 ((Wk.of hd s).trans w) c H2 (Same.refl _)
theorem kw_append {q : Addr} {ws : List V} {c : Nat} {R : PyData → Prop} (hd : DR H p l) (hq : H q = some (.lst ws)) (nq : q ≠ p) (hs : σ[c]? = some (some (.ref q))) (ha : EWd K p l ta σ H R) (hl : ws.length < 100000) (k : ∀ v d H1, Wk p l H H1 → TD K H1 v d → R d → D.nx σ (upd H1 q (.lst (ws ++ [v])))) :
    KP (tDrop (tBM K "list" rAppend (tVar c) (tCons ta tNil)) D) σ H := fun H1 s =>
  ⟨.ref q, hs, .inl ⟨rfl, ws, .inl (.inl (s _ _ hq))⟩, ha H1 (Wk.of hd s) _ fun v d H2 w qd r => ⟨q, ws, v, rfl, rfl, ((Wk.of hd s).trans w).k _ _ nq hq, Nat.lt_of_lt_of_le hl (le_line (Nat.le_refl _)), k v d H2 ((Wk.of hd s).trans w) qd r⟩⟩
/-- for j in range(what is taken) -/
theorem kw_for {j : Nat} {tu : TS} {C : Nat → Prop} (hd : DR H p l) (h : EWd K p l ta σ H (fun d => ∃ n : Nat, d = .int n ∧ C n)) (hC : ∀ n, C n → n ≤ 1000)
    (body : ∀ n H1, Wk p l H H1 → C n → ∃ Pv : Nat → L2.St → Hp → Prop, (∀ H2, Same H1 H2 → Pv 0 σ H2) ∧ (∀ i σ' H', i < n → Pv i σ' H' → KP (tu { D with nx := Pv (i + 1), ct := Pv (i + 1), bk := D.nx }) (σ'.set j (some (.int (i : Int)))) H') ∧ ∀ σ' H', Pv n σ' H' → D.nx σ' H') :
    KP (tFor (iRng1 (tCons ta tNil)) (gName j) tu D) σ H := fun H1 s => by
  refine h H1 (Wk.of hd s) _ fun v d H2 w q ⟨n, hdn, hc⟩ => ?_
  subst hdn
  cases q.int_eq
  obtain ⟨Pv, p0, ps, pd⟩ := body n H2 ((Wk.of hd s).trans w) hc
  have key : KP (tFor (iRng1 (tCons (tC (.int (n : Int))) tNil)) (gName j) tu D) σ H2 := k_for (wd_rng (K := K) (n := n) ed_int (Nat.le_trans (hC n hc) (by decide))) fun Hs s2 => by
    refine ⟨Pv, p0 Hs s2, fun _ _ _ _ => trivial, fun i d v σ' H' hd q h => ?_, fun σ' H' h => ?_⟩
    · have hi : i < n := by
        obtain ⟨h, _⟩ := List.getElem?_eq_some_iff.mp hd
        rw [rngD_len] at h
        exact h
      rw [rngD_at hi] at hd
      cases hd
      cases q.int_eq
      exact k_name (ps i σ' H' hi h)
    · rw [rngD_len] at h
      exact pd σ' H' h
  exact key H2 (Same.refl _)
end
end Bk

set_option Elab.async false
set_option linter.all false
set_option maxRecDepth 100000
set_option maxHeartbeats 4000000
namespace Bk
open PySem PySem.Spec PyProof.Rows L2

local macro_rules | `(tactic| walk_at "ed") => `(tactic| first
  | assumption
  | exact ed_int | exact ed_bl | exact ed_non | exact ed_str | exact ea_nil | exact ep_none | exact et_yes
  | (apply ed_var rfl; assumption)
  | (apply ea_cons; walk_at "ed"; walk_at "ed")
  | (apply ed_ix; walk_at "ed"; walk_at "ed"; rfl)
  | (apply et_B; walk_at "ed")
  | (apply et_T; walk_at "ed")
  | (apply ed_tup; walk_at "ed"; (apply le_line; simp only [List.length_cons, List.length_nil]; omega))
  | (apply ed_eqI; walk_at "ed"; walk_at "ed")
  | (apply ed_neI; walk_at "ed"; walk_at "ed")
  | (apply ed_eqS; walk_at "ed"; walk_at "ed")
  | (apply ed_neS; walk_at "ed"; walk_at "ed")
  | (apply ed_I0; walk_at "ed"; walk_at "ed")
  | (apply ed_B0; walk_at "ed"; walk_at "ed")
  | (apply ed_neg; walk_at "ed")
  | (apply ed_isN; walk_at "ed")
  | (apply ed_notN; walk_at "ed")
  | (apply ed_lenT; walk_at "ed")
  | (apply ep_some; walk_at "ed")
  | (apply ed_sl; walk_at "ed"; walk_at "ed"; walk_at "ed")
  | (apply el_lst; walk_at "ed"; (apply le_line; simp only [List.length_cons, List.length_nil]; omega))
  | (apply ed_tupL; walk_at "ed")
  | (apply et_not; walk_at "ed")
  | (apply ed_notV; walk_at "ed")
  | (apply ed_isInt; walk_at "ed")
  | (apply ed_isBool; walk_at "ed")
  | (apply ed_isTup; walk_at "ed")
  | (apply ed_isStr; walk_at "ed")
  | (apply ed_andF; walk_at "ed"; rfl)
  | (apply ed_andT; walk_at "ed"; rfl; walk_at "ed")
  | (apply ed_orT; walk_at "ed"; rfl)
  | (apply ed_orF; walk_at "ed"; rfl; walk_at "ed")
  | (apply et_andF; walk_at "ed"; rfl)
  | (apply et_andT; walk_at "ed"; rfl; walk_at "ed")
  | (apply et_orT; walk_at "ed"; rfl)
  | (apply et_orF; walk_at "ed"; rfl; walk_at "ed")
  | (apply ed_andV; walk_at "ed"; (intro _; walk_at "ed"))
  | (apply ed_orV; walk_at "ed"; (intro _; walk_at "ed"))
  | (apply et_and; walk_at "ed"; (intro _; walk_at "ed"))
  | (apply et_or; walk_at "ed"; (intro _; walk_at "ed")))

section
variable {P : Program} {w : World} {K : PySem.W.Frag} {mg : Str → Option Value} {base : Heap}
def D_gt (ds : List PyData) : Prop := ∃ W most : Int, 1 ≤ W ∧ W ≤ 6 ∧ ds = [.int W, .int most]
def R_gt (ds : List PyData) (d : PyData) : Prop := ∀ W most : Int, ds = [.int W, .int most] → ∃ g : Gate, d = encG g ∧ GOk W g
abbrev NL_gate : List Str := ["_law_draw_here", "_law_wires", "_law_most", "_law_target", "_law_controls", "_law_wire"]
theorem scL_gate : FnScope NL_gate ["_law_draw_here", "_law_wires", "_law_most"] (defScope sL_gate) := ⟨rfl, rfl, rfl, by decide +kernel, rfl, by decide +kernel, by decide +kernel⟩
theorem ok_L_gate (T : Fx mg) (D : Df K mg "_law_gate" sL_gate) (c_L_take : Cl P w K mg base 1 "_law_take" (spT K 2 D_take R_take)) : Cl P w K mg base 2 "_law_gate" (spT K 3 D_gt R_gt) := by
  refine cl_mk D scL_gate (fun _ _ _ _ h => h.1) (fun _ _ _ _ _ _ us hl => match us, hl with | [_, _, _], _ => rfl) ?_
  intro f cdv A outer s H vs Q E hr h
  obtain ⟨hl, p, l, rest, ds, rfl, hdr, ht, hD, q⟩ := h
  obtain ⟨W, most, hW1, hW, rfl⟩ := hD
  obtain ⟨v1, v2, rfl, h1, h2⟩ := ht.two
  cases h1.int_eq
  cases h2.int_eq
  have q : ∀ (g : Gate) v H', Wk p l H H' → TD K H' v (encG g) → GOk W g → Q v H' := fun g v H' w t ok => q v _ H' w t fun W' m' e => by
    injection e with e e2
    injection e with e
    rw [← e]
    exact ⟨g, rfl, ok⟩
  refine ⟨_, (pss_cons (ps_set (i := 3) scL_gate.nd rfl (.inl rfl) (pe_cl c_L_take hr (by omega) (by rfl) (pa_cons (pv 0) (pa_cons (pv 1) pa_nil))))
      (pss_cons (ps_set (i := 4) scL_gate.nd rfl (.inl rfl) (pe_lst pa_nil))
      (pss_cons (ps_for PassesOwn.never rfl (pi_range1 (by rfl) T.range (pa_cons (pv 1) pa_nil)) (pg_name (i := 5) scL_gate.nd rfl (.inl rfl)) (pss_one (ps_if (PW.pt (pw_and (pt_cmpR op_ne (pv 5) (pv 3) (nomark _)) (pw_and (pt_cmpR op_lt (pe_callB (kc_len (K := K)) (by rfl) T.len bt_len (pa_cons (pv 4) pa_nil)) (pv 2) (nomark _)) (pw_and1 (pt_cmpR op_eq (pe_cl c_L_take hr (by omega) (by rfl) (pa_cons (pv 0) (pa_cons pe_int pa_nil))) pe_int (nomark _)))))) (pss_one (ps_expr (k_app (K := K) (id := "list.append") (pe_bm PySem.F.plainAttrs_list PySem.F.slot_list_append PySem.F.type_list_append mt_append (pv 4) (pa_cons (pe_tupP (pa_cons (pv 5) (pa_cons (pe_cl c_L_take hr (by omega) (by rfl) (pa_cons (pv 0) (pa_cons pe_int pa_nil))) pa_nil))) pa_nil))))) pss_nil)))
      (pss_one (ps_ret (pe_tupP (pa_cons (pv 3) (pa_cons (pe_callTy (kc_tup (K := K)) (by rfl) T.tuple bt_tuple (pa_cons (pv 4) pa_nil)) pa_nil)))))))), ?_⟩
  refine k_at ?_
  show KP _ [some (.ref p), some (.int W), some (.int most), none, none, none] H
  refine kw_set (K := K) hdr (ew_take rfl (fun H1 w => ed_var rfl (.int _)) hW1 (by omega)) fun v d H1 w1 q1 ⟨t, hd, t0, tW⟩ => ?_
  subst hd
  cases q1.int_eq
  dsimp only
  refine k_setL (K := K) (ds := []) (el_lst ea_nil) fun cp ws0 H2 ncp e2 hcp tws => ?_
  cases tws
  have w2 := w1.add e2
  have ncp0 : H cp = none := by
    by_cases z : cp = p
    · have := (w1.d1.fresh ncp).1
      exact absurd z this
    · cases hh : H cp with
      | none => rfl
      | some o => rw [w1.k _ _ z hh] at ncp; cases ncp
  have ncpp : cp ≠ p := (hdr.fresh ncp0).1
  obtain ⟨n, rfl⟩ := Int.eq_ofNat_of_zero_le (show 0 ≤ W by omega)
  dsimp only
  refine k_seq (k_for (K := K) (wd_rng (K := K) (n := n) (ed_var rfl (.int _)) (by omega)) fun Hs s3 => ?_)
  refine ⟨fun i σ' H' => ∃ x ws cs, σ' = [some (.ref p), some (.int n), some (.int most), some (.int t), some (.ref cp), x] ∧ Wk p l H H' ∧ H' cp = some (.lst ws) ∧ TDs K H' ws (cs.map encC) ∧ Asc cs ∧ cs.length ≤ i ∧ ∀ c ∈ cs, 0 ≤ c.1 ∧ c.1 < i ∧ c.1 ≠ t ∧ (c.2 = 0 ∨ c.2 = 1),
    ⟨none, [], [], rfl, w2.add s3, s3 _ _ hcp, .nil, List.Pairwise.nil, Nat.zero_le _, fun c m => by cases m⟩, fun _ _ _ _ => trivial, fun i d v σ' H' hd qv h => ?_, fun σ' H' h => ?_⟩
  · have hi : i < n := by
      obtain ⟨h, _⟩ := List.getElem?_eq_some_iff.mp hd
      rw [rngD_len] at h
      exact h
    rw [rngD_at hi] at hd
    cases hd
    cases qv.int_eq
    obtain ⟨x, ws, cs, rfl, w4, hq, tw, asc, hle, hc⟩ := h
    refine k_name ?_
    dsimp only
    have lw : ws.length = cs.length := by rw [tw.len, List.length_map]
    refine kw_if w4.d1 (ewt_and (fun H5 w5 => et_T (K := K) (ed_neI (i := i) (j := t) (ed_var rfl (.int _)) (ed_var rfl (.int _)))) fun _ => ewt_and (fun H5 w5 => et_T (K := K) (ed_B0 (ed_lenV (w5.k _ _ ncpp hq) (ev_var rfl)) (ed_var rfl (.int _)))) fun _ => ewt_eqI (K := K) (ew_take rfl (fun H6 w6 => ed_int) (m := 2) (by omega) (by omega))) (fun H5 w5 hb => ?_) (fun H5 w5 _ => ?_)
    · have hne : (i : Int) ≠ t := by simpa using (hb rfl).1
      have hq5 := w5.k _ _ ncpp hq
      refine kw_append (K := K) (R := fun d => ∃ b : Int, d = encC (i, b) ∧ (b = 0 ∨ b = 1)) w5.d1 hq5 ncpp rfl (ew_imp (ew_tup (ewa_cons (ew_pure fun H6 w6 => ed_var rfl (.int _)) (ewa_cons (ew_take rfl (fun H6 w6 => ed_int) (m := 2) (by omega) (by omega)) ewa_nil)) ?_) ?_) (by omega) fun v6 d6 H6 w6 q6 ⟨b, hd6, hb6⟩ => ?_
      · rintro _ ⟨_, _, rfl, rfl, _, _, rfl, _, rfl⟩
        simp
      · rintro _ ⟨_, rfl, _, _, rfl, rfl, _, _, rfl, ⟨b, rfl, b0, b1⟩, rfl⟩
        exact ⟨b, rfl, by omega⟩
      · subst hd6
        have w46 := w5.trans w6
        have hq6 := w46.k _ _ ncpp hq
        have wl : Wx H6 (upd H6 cp (.lst (ws ++ [v6]))) := wx_lst hq6
        refine ⟨_, _, cs ++ [((i : Int), b)], rfl, (w4.trans w46).mut ncp0, upd_same, ?_, ?_, ?_, ?_⟩
        · rw [List.map_append]
          exact ((tw.w w46.wx).w wl).app (.cons (q6.w wl) .nil)
        · refine List.pairwise_append.mpr ⟨asc, List.pairwise_singleton _ _, fun a ma b' mb => ?_⟩
          rw [List.mem_singleton.mp mb]
          exact (hc a ma).2.1
        · rw [List.length_append, List.length_singleton]
          omega
        · intro c mc
          rcases List.mem_append.mp mc with mc | mc
          · obtain ⟨a1, a2, a3, a4⟩ := hc c mc
            exact ⟨a1, by omega, a3, a4⟩
          · rw [List.mem_singleton.mp mc]
            exact ⟨by show (0 : Int) ≤ i; omega, by show (i : Int) < ((i + 1 : Nat) : Int); omega, hne, hb6⟩
    · refine k_mid fun H6 s6 => ⟨_, ws, cs, rfl, (w4.trans w5).add s6, s6 _ _ (w5.k _ _ ncpp hq), (tw.w w5.wx).up s6, asc, by omega, fun c mc => ?_⟩
      obtain ⟨a1, a2, a3, a4⟩ := hc c mc
      exact ⟨a1, by omega, a3, a4⟩
  · obtain ⟨x, ws, cs, rfl, w4, hq, tw, asc, hle, hc⟩ := h
    rw [rngD_len] at hc
    dsimp only
    apply k_at
    refine k_ret (K := K) (d := encG (t, cs)) (ed_tup (ea_cons (ed_var rfl (.int _)) (ea_cons (ed_tupV hq tw (ev_var rfl)) ea_nil)) (le_line (by simp))) fun v5 H5 s5 q5 => q (t, cs) v5 H5 (w4.add s5) q5 ⟨t0, tW, asc, fun c mc => ?_⟩
    exact hc c mc
end
end Bk

set_option Elab.async false
set_option linter.all false
set_option maxRecDepth 100000
set_option maxHeartbeats 4000000
namespace Bk
open PySem PySem.Spec PyProof.Rows L2

local macro_rules | `(tactic| walk_at "ed") => `(tactic| first
  | assumption
  | exact ed_int | exact ed_bl | exact ed_non | exact ed_str | exact ea_nil | exact ep_none | exact et_yes
  | (apply ed_var rfl; assumption)
  | (apply ea_cons; walk_at "ed"; walk_at "ed")
  | (apply ed_ix; walk_at "ed"; walk_at "ed"; rfl)
  | (apply et_B; walk_at "ed")
  | (apply et_T; walk_at "ed")
  | (apply ed_tup; walk_at "ed"; (apply le_line; simp only [List.length_cons, List.length_nil]; omega))
  | (apply ed_eqI; walk_at "ed"; walk_at "ed")
  | (apply ed_neI; walk_at "ed"; walk_at "ed")
  | (apply ed_eqS; walk_at "ed"; walk_at "ed")
  | (apply ed_neS; walk_at "ed"; walk_at "ed")
  | (apply ed_I0; walk_at "ed"; walk_at "ed")
  | (apply ed_B0; walk_at "ed"; walk_at "ed")
  | (apply ed_neg; walk_at "ed")
  | (apply ed_isN; walk_at "ed")
  | (apply ed_notN; walk_at "ed")
  | (apply ed_lenT; walk_at "ed")
  | (apply ep_some; walk_at "ed")
  | (apply ed_sl; walk_at "ed"; walk_at "ed"; walk_at "ed")
  | (apply el_lst; walk_at "ed"; (apply le_line; simp only [List.length_cons, List.length_nil]; omega))
  | (apply ed_tupL; walk_at "ed")
  | (apply et_not; walk_at "ed")
  | (apply ed_notV; walk_at "ed")
  | (apply ed_isInt; walk_at "ed")
  | (apply ed_isBool; walk_at "ed")
  | (apply ed_isTup; walk_at "ed")
  | (apply ed_isStr; walk_at "ed")
  | (apply ed_andF; walk_at "ed"; rfl)
  | (apply ed_andT; walk_at "ed"; rfl; walk_at "ed")
  | (apply ed_orT; walk_at "ed"; rfl)
  | (apply ed_orF; walk_at "ed"; rfl; walk_at "ed")
  | (apply et_andF; walk_at "ed"; rfl)
  | (apply et_andT; walk_at "ed"; rfl; walk_at "ed")
  | (apply et_orT; walk_at "ed"; rfl)
  | (apply et_orF; walk_at "ed"; rfl; walk_at "ed")
  | (apply ed_andV; walk_at "ed"; (intro _; walk_at "ed"))
  | (apply ed_orV; walk_at "ed"; (intro _; walk_at "ed"))
  | (apply et_and; walk_at "ed"; (intro _; walk_at "ed"))
  | (apply et_or; walk_at "ed"; (intro _; walk_at "ed")))

section
variable {K : PySem.W.Frag} {H : Hp} {σ : L2.St} {ta tb : TE} {tr : TA}
theorem TDs.strs : ∀ {zs : List Str} {vs : List V}, TDs K H vs (zs.map PyData.str) → vs = zs.map V.str
  | [], _, h => by cases h; rfl
  | z :: zs, _, h => by
    cases h with
    | cons h1 h2 => rw [h1.str_eq, TDs.strs h2]; rfl
theorem flat_strs : ∀ zs : List Str, (zs.map V.str).all flatV = true
  | [] => rfl
  | n :: ns => by rw [List.map_cons, List.all_cons, flat_strs ns]; rfl
theorem ed_inTS {z : Str} {zs : List Str} (ha : ED K ta σ H (.str z)) (hb : ED K tb σ H (.tuple (zs.map PyData.str))) : ED K (tOp (rIn K false) ta tb) σ H (.bool (inV (.str z) (zs.map V.str))) := fun H1 a Q k =>
  ev_str ha H1 a _ fun H2 b => hb H2 (a.trans b) _ fun y H3 c q => by
    obtain ⟨p, vs, rfl, q1, q2⟩ := q.tup_of
    exact ⟨p, vs, rfl, .inr q1.sq, rfl, by rw [q2.strs]; exact flat_strs zs, by
      rw [q2.strs]
      exact k _ H3 (b.trans c) (.bl _)⟩
/-- a list display inside data: nobody looks into it -/
theorem ed_lstO {ds : List PyData} (h : EA K tr σ H ds) (hl : ds.length ≤ 1000) : ED K (tLst tr) σ H (.list []) := fun H1 a Q k =>
  el_lst h (le_line (Nat.le_trans hl (by decide))) H1 a Q fun p vs H2 _ s hp _ => k _ H2 s (.lst hp)
theorem ed_t2 {a b : PyData} (h1 : ED K ta σ H a) (h2 : ED K tb σ H b) : ED K (tTupP (tCons ta (tCons tb tNil))) σ H (.tuple [a, b]) := ed_tup (ea_cons h1 (ea_cons h2 ea_nil)) (le_line (by simp))
theorem ed_t1 {a : PyData} (h1 : ED K ta σ H a) : ED K (tTupP (tCons ta tNil)) σ H (.tuple [a]) := ed_tup (ea_cons h1 ea_nil) (le_line (by simp))
theorem ed_t0 : ED K (tTupP tNil) σ H (.tuple []) := ed_tup ea_nil
theorem sts_of {x : PyData} (h : ∀ a cs, x = .tuple [a, .tuple cs] → cs.length ≤ 1000) : StS x := fun g hg => by
  have e := (gateD_ok hg).1
  have := h (.int g.1) (g.2.map encC) e
  rw [List.length_map] at this
  exact this
theorem sts_gate {W : Int} {g : Gate} (h : GOk W g) (hW : W ≤ 6) : StS (encG g) := sts_of fun a cs e => by
  injection e with e
  injection e with _ e
  injection e with e _
  injection e with e
  rw [← e, List.length_map]
  have := gok_small h hW
  omega
def badL (W : Int) : List PyData := [.tuple [.int W, .tuple []], .tuple [.int 0, .tuple [.tuple [.int 0, .int 1]]], .none, .tuple [.int 0], .tuple [.bool true, .tuple []], .tuple [.int 0, .tuple [.tuple [.int 1, .int 2]]], .tuple [.int 0, .tuple [.tuple [.int 1, .bool true]]],
  .tuple [.int 0, .tuple [.tuple [.int W, .int 1]]], .tuple [.int 0, .tuple [.tuple [.int 2, .int 1], .tuple [.int 1, .int 0]]], .tuple [.int 0, .tuple [.tuple [.int 1, .int 1], .tuple [.int 1, .int 0]]], .tuple [.int (-1), .tuple []], .list []]
theorem sts_bad {W : Int} {d : PyData} (h : d ∈ badL W) : StS d := sts_of fun a cs e => by
  subst e
  unfold badL at h
  simp only [List.mem_cons, List.not_mem_nil, or_false] at h
  rcases h with h | h | h | h | h | h | h | h | h | h | h | h <;> cases h <;> simp
theorem std_of {d : PyData} (h : ∀ a b y, d = .tuple [a, b, y] → StS y) : StD d := h
theorem sts_no {x : PyData} (h : isTupD x = false) : StS x := sts_of fun a cs e => by
  subst e
  cases h
end
section
variable {P : Program} {w : World} {K : PySem.W.Frag} {mg : Str → Option Value} {base : Heap}
def D_st (ds : List PyData) : Prop := ∃ (W : Int) (c : Circ), 1 ≤ W ∧ W ≤ 6 ∧ CS W c ∧ c.2.length ≤ 1000 ∧ ds = [encCi c]
def R_st (_ : List PyData) (d : PyData) : Prop := StD d
def wordsL : List Str := ["cancel", "pair", "exchange", "merge", "split", "pass", "exchange", "pass"]
abbrev NL_step : List Str := ["_law_draw_here", "_law_circuit_here", "_law_wires", "_law_gates", "_law_i", "_law_word", "_law_gate_here", "_law_bad", "_law_k"]
theorem scL_step : FnScope NL_step ["_law_draw_here", "_law_circuit_here"] (defScope sL_step) := ⟨rfl, rfl, rfl, by decide +kernel, rfl, by decide +kernel, by decide +kernel⟩
theorem ok_L_step (T : Fx mg) (D : Df K mg "_law_step" sL_step) (c_L_take : Cl P w K mg base 1 "_law_take" (spT K 2 D_take R_take)) (c_L_gate : Cl P w K mg base 2 "_law_gate" (spT K 3 D_gt R_gt)) : Cl P w K mg base 3 "_law_step" (spT K 2 D_st R_st) := by
  refine cl_mk D scL_step (fun _ _ _ _ h => h.1) (fun _ _ _ _ _ _ us hl => match us, hl with | [_, _], _ => rfl) ?_
  intro f cdv A outer s H vs Q E hr h
  obtain ⟨hl, p, l, rest, ds, rfl, hdr, ht, hD, q⟩ := h
  obtain ⟨W, c, hW1, hW, hc, hcl, rfl⟩ := hD
  obtain ⟨v1, rfl, h1⟩ := ht.one
  have q : ∀ v d H', Wk p l H H' → TD K H' v d → StD d → Q v H' := fun v d H' w t ok => q v d H' w t ok
  refine ⟨_, (pss_cons (ps_asg (pv 1) (kg_tup (K := K) (n := 2) rfl (pgs_cons (pg_name (i := 2) scL_step.nd rfl (.inl rfl)) (pgs_cons (pg_name (i := 3) scL_step.nd rfl (.inl rfl)) pgs_nil))))
      (pss_cons (ps_set (i := 4) scL_step.nd rfl (.inl rfl) (pe_cl c_L_take hr (by omega) (by rfl) (pa_cons (pv 0) (pa_cons (pe_op op_add (pe_callB (kc_len (K := K)) (by rfl) T.len bt_len (pa_cons (pv 3) pa_nil)) pe_int) pa_nil))))
      (pss_cons (ps_set (i := 5) scL_step.nd rfl (.inl rfl) (pe_ix (kx_list (K := K)) (pe_lst (pa_cons pe_str (pa_cons pe_str (pa_cons pe_str (pa_cons pe_str (pa_cons pe_str (pa_cons pe_str (pa_cons pe_str (pa_cons pe_str pa_nil))))))))) (pe_cl c_L_take hr (by omega) (by rfl) (pa_cons (pv 0) (pa_cons pe_int pa_nil))) (fun _ _ => rfl)))
      (Evl.pss_cut (ps_if (PW.pt (pw_and (pt_cmpR (ko_in (K := K)) (pv 5) (pe_tupP (pa_cons pe_str (pa_cons pe_str pa_nil))) (by rfl)) (pw_and1 (pt_cmpR op_eq (pe_cl c_L_take hr (by omega) (by rfl) (pa_cons (pv 0) (pa_cons pe_int pa_nil))) pe_int (nomark _))))) (pss_one (ps_set (i := 4) scL_step.nd rfl (.inl rfl) (pe_ix (kx_list (K := K)) (pe_lst (pa_cons (pe_un un_neg pe_int) (pa_cons pe_bl (pa_cons (pe_un un_neg pe_int) (pa_cons pe_bl pa_nil))))) (pe_cl c_L_take hr (by omega) (by rfl) (pa_cons (pv 0) (pa_cons pe_int pa_nil))) (fun _ _ => rfl)))) pss_nil)
      (pss_cons (ps_if (pt_cmpR op_eq (pv 5) pe_str (nomark _)) (pss_cons (ps_set (i := 6) scL_step.nd rfl (.inl rfl) (pe_cl c_L_gate hr (by omega) (by rfl) (pa_cons (pv 0) (pa_cons (pv 2) (pa_cons pe_int pa_nil)))))
        (pss_cons (ps_set (i := 7) scL_step.nd rfl (.inl rfl) (pe_lst (pa_cons (pe_tupP (pa_cons (pv 2) (pa_cons (pe_tupP pa_nil) pa_nil))) (pa_cons (pe_tupP (pa_cons pe_int (pa_cons (pe_tupP (pa_cons (pe_tupP (pa_cons pe_int (pa_cons pe_int pa_nil))) pa_nil)) pa_nil))) (pa_cons pe_non (pa_cons (pe_tupP (pa_cons pe_int pa_nil)) (pa_cons (pe_tupP (pa_cons pe_bl (pa_cons (pe_tupP pa_nil) pa_nil))) (pa_cons (pe_tupP (pa_cons pe_int (pa_cons (pe_tupP (pa_cons (pe_tupP (pa_cons pe_int (pa_cons pe_int pa_nil))) pa_nil)) pa_nil))) (pa_cons (pe_tupP (pa_cons pe_int (pa_cons (pe_tupP (pa_cons (pe_tupP (pa_cons pe_int (pa_cons pe_bl pa_nil))) pa_nil)) pa_nil))) (pa_cons (pe_tupP (pa_cons pe_int (pa_cons (pe_tupP (pa_cons (pe_tupP (pa_cons (pv 2) (pa_cons pe_int pa_nil))) pa_nil)) pa_nil))) (pa_cons (pe_tupP (pa_cons pe_int (pa_cons (pe_tupP (pa_cons (pe_tupP (pa_cons pe_int (pa_cons pe_int pa_nil))) (pa_cons (pe_tupP (pa_cons pe_int (pa_cons pe_int pa_nil))) pa_nil))) pa_nil))) (pa_cons (pe_tupP (pa_cons pe_int (pa_cons (pe_tupP (pa_cons (pe_tupP (pa_cons pe_int (pa_cons pe_int pa_nil))) (pa_cons (pe_tupP (pa_cons pe_int (pa_cons pe_int pa_nil))) pa_nil))) pa_nil))) (pa_cons (pe_tupP (pa_cons (pe_un un_neg pe_int) (pa_cons (pe_tupP pa_nil) pa_nil))) (pa_cons (pe_lst (pa_cons pe_int (pa_cons (pe_tupP pa_nil) pa_nil))) pa_nil))))))))))))))
        (pss_one (ps_ret (pe_tupP (pa_cons (pv 5) (pa_cons (pv 4) (pa_cons (pe_ix (kx_list (K := K)) (pe_lst (pa_cons (pv 6) (pa_cons (pv 6) (pa_cons (pv 6) (pa_cons (pe_ix (kx_list (K := K)) (pv 7) (pe_cl c_L_take hr (by omega) (by rfl) (pa_cons (pv 0) (pa_cons pe_int pa_nil))) (fun _ _ => rfl)) pa_nil))))) (pe_cl c_L_take hr (by omega) (by rfl) (pa_cons (pv 0) (pa_cons pe_int pa_nil))) (fun _ _ => rfl)) pa_nil)))))))) pss_nil)
      (pss_cons (ps_if (pt_cmpR op_eq (pv 5) pe_str (nomark _)) (pss_one (ps_ret (pe_tupP (pa_cons (pv 5) (pa_cons (pv 4) (pa_cons (pe_ix (kx_list (K := K)) (pe_lst (pa_cons (pe_cl c_L_take hr (by omega) (by rfl) (pa_cons (pv 0) (pa_cons (pe_op op_add (pv 2) pe_int) pa_nil))) (pa_cons (pe_un un_neg pe_int) (pa_cons pe_bl (pa_cons pe_non pa_nil))))) (pe_ix (kx_list (K := K)) (pe_lst (pa_cons pe_int (pa_cons pe_int (pa_cons pe_int (pa_cons pe_int (pa_cons pe_int (pa_cons pe_int pa_nil))))))) (pe_cl c_L_take hr (by omega) (by rfl) (pa_cons (pv 0) (pa_cons pe_int pa_nil))) (fun _ _ => rfl)) (fun _ _ => rfl)) pa_nil)))))) pss_nil)
      (pss_cons (ps_set (i := 8) scL_step.nd rfl (.inl rfl) (pe_cl c_L_take hr (by omega) (by rfl) (pa_cons (pv 0) (pa_cons pe_int pa_nil))))
      (pss_cons (ps_if (pt_cmpR op_lt (pv 8) pe_int (nomark _)) (pss_one (ps_ret (pe_ix (kx_list (K := K)) (pe_lst (pa_cons (pe_tupP (pa_cons (pv 5) (pa_cons (pe_un un_neg pe_int) pa_nil))) (pa_cons (pe_tupP (pa_cons (pv 5) pa_nil)) (pa_cons (pe_tupP (pa_cons (pv 5) (pa_cons (pv 4) (pa_cons pe_int pa_nil)))) (pa_cons pe_non (pa_cons (pe_tupP (pa_cons pe_str (pa_cons (pv 4) pa_nil))) (pa_cons (pe_tupP (pa_cons (pv 5) (pa_cons pe_bl pa_nil))) (pa_cons (pe_lst (pa_cons (pv 5) (pa_cons (pv 4) pa_nil))) (pa_cons (pe_tupP (pa_cons pe_str (pa_cons (pv 4) pa_nil))) pa_nil))))))))) (pv 8) (fun _ _ => rfl)))) pss_nil)
      (pss_one (ps_ret (pe_tupP (pa_cons (pv 5) (pa_cons (pv 4) pa_nil))))))))))))), ?_⟩
  refine k_at ?_
  show KP _ [some (.ref p), some v1, none, none, none, none, none, none, none] H
  have i1 : TD K H v1 (.tuple [.int c.1, encGs c.2]) := h1
  have cw := hc.w
  refine k_unp2 (d := .int c.1) (e := encGs c.2) (ed_var rfl i1) fun vw gv H1 e1 qw qg => ?_
  cases qw.int_eq
  rw [cw]
  have w1 := Wk.of hdr e1
  have lg : (c.2.map encG).length = c.2.length := List.length_map ..
  dsimp only
  refine kw_set (K := K) w1.d1 (ew_take (m := (c.2.length : Int) + 2) rfl (fun H2 w2 => ed_is (ed_I0 (ed_lenT (ds := c.2.map encG) (ed_var rfl (qg.w w2.wx))) ed_int) (by rw [lg])) (by omega) (by omega)) fun vi di H2 w2 qi _ => ?_
  have w2 := w1.trans w2
  dsimp only
  refine kw_set (K := K) (R := fun d => ∃ z, d = .str z) w2.d1 (ew_imp (ew_ixL (m := 8) (ewa_pure (ds := wordsL.map PyData.str) fun H3 w3 => ea_cons ed_str (ea_cons ed_str (ea_cons ed_str (ea_cons ed_str (ea_cons ed_str (ea_cons ed_str (ea_cons ed_str (ea_cons ed_str ea_nil)))))))) (ew_take rfl (fun H3 w3 => ed_int) (by omega) (by omega)) (fun ds e => by rw [e]; rfl) (by omega)) fun d h => ?_) fun vz dz H3 w3 qz hz => ?_
  · obtain ⟨ds, rfl, m⟩ := h
    obtain ⟨z, _, rfl⟩ := List.mem_map.mp m
    exact ⟨z, rfl⟩
  obtain ⟨z, rfl⟩ := hz
  cases qz.str_eq
  have qi := qi.w w3.wx
  have w3 := w2.trans w3
  dsimp only
  refine k_cut (fun σ' H' => ∃ vi di, σ' = [some (.ref p), some v1, some (.int W), some gv, some vi, some (.str z), none, none, none] ∧ Wk p l H H' ∧ TD K H' vi di) ?_ ?_
  · refine kw_if w3.d1 (ewt_and (fun H5 w5 => et_T (K := K) (ed_inTS (zs := ["pair", "split"]) (ed_var rfl (.str _)) (ed_t2 ed_str ed_str))) fun _ => ewt_eqI (K := K) (ew_take rfl (fun H6 w6 => ed_int) (m := 9) (by omega) (by omega))) (fun H5 w5 _ => ?_) (fun H5 w5 _ => ?_)
    · refine kw_set (K := K) w5.d1 (ew_ixL (m := 4) (ewa_pure (ds := [.int (-1), .bool true, .int (-2), .bool false]) fun H6 w6 => ea_cons (ed_neg ed_int) (ea_cons ed_bl (ea_cons (ed_neg ed_int) (ea_cons ed_bl ea_nil)))) (ew_take rfl (fun H3 w3 => ed_int) (by omega) (by omega)) (fun ds e => by rw [e]; rfl) (by omega)) fun v6 d6 H6 w6 q6 _ => ?_
      exact k_mid fun H7 s7 => ⟨v6, d6, rfl, ((w3.trans w5).trans w6).add s7, q6.up s7⟩
    · exact k_mid fun H7 s7 => ⟨vi, di, rfl, (w3.trans w5).add s7, (qi.w w5.wx).up s7⟩
  rintro σ' H4 ⟨vi, di, rfl, w4, qi⟩
  apply k_at
  refine k_if1 (b := decide (z = "pair")) (et_T (K := K) (ed_eqS (ed_var rfl (.str _)) ed_str)) (fun _ => ?_) (fun _ => ?_)
  · -- pair
    refine kw_set (K := K) (R := R_gt [.int W, .int 4]) w4.d1 (ew_call (ds := [.int W, .int 4]) rfl (fun H5 w5 => ea_cons (ed_var rfl (.int _)) (ea_cons ed_int ea_nil)) ⟨W, 4, hW1, hW, rfl⟩) fun v5 d5 H5 w5 q5 r5 => ?_
    obtain ⟨g, rfl, gk⟩ := r5 W 4 rfl
    dsimp only
    refine k_setL (K := K) (ds := badL W) (el_lst ?_ (le_line (by simp [badL]))) fun bp bw H6 nbp s6 hbp tb => ?_
    · have i0 : ∀ (x : Int), ED K (tC (.int x)) [some (.ref p), some v1, some (.int W), some gv, some vi, some (.str z), some v5, none, none] H5 (.int x) := fun x => ed_int
      refine ea_cons (ed_t2 (ed_var rfl (.int _)) ed_t0) (ea_cons (ed_t2 ed_int (ed_t1 (ed_t2 ed_int ed_int))) (ea_cons ed_non (ea_cons (ed_t1 ed_int) (ea_cons (ed_t2 ed_bl ed_t0) (ea_cons (ed_t2 ed_int (ed_t1 (ed_t2 ed_int ed_int))) (ea_cons (ed_t2 ed_int (ed_t1 (ed_t2 ed_int ed_bl)))
        (ea_cons (ed_t2 ed_int (ed_t1 (ed_t2 (ed_var rfl (.int _)) ed_int))) (ea_cons (ed_t2 ed_int (ed_t2 (ed_t2 ed_int ed_int) (ed_t2 ed_int ed_int))) (ea_cons (ed_t2 ed_int (ed_t2 (ed_t2 ed_int ed_int) (ed_t2 ed_int ed_int))) (ea_cons (ed_t2 (ed_neg ed_int) ed_t0) (ea_cons (ed_lstO (ea_cons ed_int (ea_cons ed_t0 ea_nil)) (by simp)) ea_nil)))))))))))
    have w6 := (w4.trans w5).add s6
    have nbpp := (w5.d1.fresh nbp).1
    dsimp only
    refine kw_ret (K := K) (R := fun d => ∃ ds, d = .tuple ds ∧ ∃ a b y, ds = [a, b, y] ∧ StS y) w6.d1 (ew_imp (ew_tup (ewa_cons (ew_pure (d := .str z) fun H7 w7 => ed_var rfl (.str _)) (ewa_cons (ew_pure (d := di) fun H7 w7 => ed_var rfl (((qi.w w5.wx).up s6).w w7.wx)) (ewa_cons (R1 := StS) (ew_imp (ew_ixL (m := 4) (ewa_cons (ew_pure (d := encG g) fun H7 w7 => ed_var rfl ((q5.up s6).w w7.wx)) (ewa_cons (ew_pure (d := encG g) fun H7 w7 => ed_var rfl ((q5.up s6).w w7.wx)) (ewa_cons (ew_pure (d := encG g) fun H7 w7 => ed_var rfl ((q5.up s6).w w7.wx)) (ewa_cons (ew_ixV (m := 12) hbp nbpp tb rfl (ew_take rfl (fun H8 w8 => ed_int) (by omega) (by omega)) rfl) ewa_nil)))) (ew_take rfl (fun H8 w8 => ed_int) (by omega) (by omega)) ?_ (by omega)) ?_) ewa_nil))) ?_) ?_) fun v d H7 w7 q7 r7 => ?_
    · rintro _ ⟨_, _, rfl, _, _, _, rfl, _, _, _, rfl, _, _, _, rfl, _, rfl⟩
      rfl
    · rintro d ⟨_, ⟨_, _, rfl, rfl, _, _, rfl, rfl, _, _, rfl, rfl, y, _, rfl, hy, rfl⟩, m⟩
      have gs := sts_gate gk hW
      rcases List.mem_cons.mp m with rfl | m
      · exact gs
      rcases List.mem_cons.mp m with rfl | m
      · exact gs
      rcases List.mem_cons.mp m with rfl | m
      · exact gs
      rw [List.mem_singleton.mp m]
      exact sts_bad hy
    · rintro _ ⟨_, _, rfl, _, _, _, rfl, _, _, _, rfl, _, rfl⟩
      simp
    · rintro _ ⟨_, rfl, _, _, rfl, rfl, _, _, rfl, rfl, y, _, rfl, hy, rfl⟩
      exact ⟨_, rfl, _, _, y, rfl, hy⟩
    · obtain ⟨_, rfl, a, b, y, rfl, hy⟩ := r7
      refine q v _ H7 (w6.trans w7) q7 fun a' b' y' e => ?_
      injection e with e
      injection e with _ e
      injection e with _ e
      injection e with e _
      rw [← e]
      exact hy
  dsimp only
  refine k_if1 (b := decide (z = "split")) (et_T (K := K) (ed_eqS (ed_var rfl (.str _)) ed_str)) (fun _ => ?_) (fun _ => ?_)
  · refine kw_ret (K := K) (R := fun d => ∃ ds, d = .tuple ds ∧ ∃ a b y, ds = [a, b, y] ∧ StS y) w4.d1 (ew_imp (ew_tup (ewa_cons (ew_pure (d := .str z) fun H7 w7 => ed_var rfl (.str _)) (ewa_cons (ew_pure (d := di) fun H7 w7 => ed_var rfl (qi.w w7.wx)) (ewa_cons (R1 := StS) (ew_imp (ew_ixL (m := 4) (ewa_cons (ew_take (m := W + 1) rfl (fun H8 w8 => ed_I0 (ed_var rfl (.int _)) ed_int) (by omega) (by omega)) (ewa_pure (ds := [.int (-1), .bool true, .none]) fun H8 w8 => ea_cons (ed_neg ed_int) (ea_cons ed_bl (ea_cons ed_non ea_nil)))) (ew_imp (ew_ixL (m := 6) (ewa_pure (ds := [.int 0, .int 0, .int 0, .int 1, .int 2, .int 3]) fun H8 w8 => ea_cons ed_int (ea_cons ed_int (ea_cons ed_int (ea_cons ed_int (ea_cons ed_int (ea_cons ed_int ea_nil)))))) (ew_take rfl (fun H8 w8 => ed_int) (by omega) (by omega)) ?_ (by omega)) ?_) ?_ (by omega)) ?_) ewa_nil))) ?_) ?_) fun v d H7 w7 q7 r7 => ?_
    · rintro _ rfl
      rfl
    · rintro d ⟨_, rfl, m⟩
      simp only [List.mem_cons, List.not_mem_nil, or_false] at m
      rcases m with rfl | rfl | rfl | rfl | rfl | rfl
      · exact ⟨0, rfl, by decide, by decide⟩
      · exact ⟨0, rfl, by decide, by decide⟩
      · exact ⟨0, rfl, by decide, by decide⟩
      · exact ⟨1, rfl, by decide, by decide⟩
      · exact ⟨2, rfl, by decide, by decide⟩
      · exact ⟨3, rfl, by decide, by decide⟩
    · rintro _ ⟨_, _, rfl, _, rfl⟩
      rfl
    · rintro d ⟨_, ⟨_, _, rfl, ⟨i, rfl, _⟩, rfl⟩, m⟩
      simp only [List.mem_cons, List.not_mem_nil, or_false] at m
      rcases m with rfl | rfl | rfl | rfl <;> exact sts_no rfl
    · rintro _ ⟨_, _, rfl, _, _, _, rfl, _, _, _, rfl, _, rfl⟩
      simp
    · rintro _ ⟨_, rfl, _, _, rfl, rfl, _, _, rfl, rfl, y, _, rfl, hy, rfl⟩
      exact ⟨_, rfl, _, _, y, rfl, hy⟩
    · obtain ⟨_, rfl, a, b, y, rfl, hy⟩ := r7
      refine q v _ H7 (w4.trans w7) q7 fun a' b' y' e => ?_
      injection e with e
      injection e with _ e
      injection e with _ e
      injection e with e _
      rw [← e]
      exact hy
  dsimp only
  refine kw_set (K := K) w4.d1 (ew_take (m := 20) rfl (fun H8 w8 => ed_int) (by omega) (by omega)) fun v5 d5 H5 w5 q5 ⟨k, hk, k0, k1⟩ => ?_
  subst hk
  cases q5.int_eq
  have w5' := w4.trans w5
  have qi := qi.w w5.wx
  dsimp only
  refine k_if1 (b := decide (k < 8)) (et_T (K := K) (ed_B0 (ed_var rfl (.int _)) ed_int)) (fun hb => ?_) (fun hb => ?_)
  · have hk8 := of_decide_eq_true hb
    let dl : List PyData := [.tuple [.str z, .int (-1)], .tuple [.str z], .tuple [.str z, di, .int 0], .none, .tuple [.str "turn", di], .tuple [.str z, .bool true], .list [], .tuple [.str "drop", di]]
    have hlt : k.toNat < dl.length := by show k.toNat < 8; omega
    have e1 : dl[k.toNat]? = some (dl[k.toNat]'hlt) := List.getElem?_eq_getElem hlt
    have hm : dl[k.toNat]'hlt ∈ dl := List.getElem_mem _
    generalize dl[k.toNat]'hlt = dr at e1 hm
    refine k_ret (K := K) (d := dr) (ed_ixL (ds := dl) (el_lst ?_ (le_line (by simp [dl]))) (ed_var rfl (.int _)) (atI_of k0 e1)) fun v H6 s6 q6 => q v dr H6 (w5'.add s6) q6 ?_
    · exact ea_cons (ed_t2 (ed_var rfl (.str _)) (ed_neg ed_int)) (ea_cons (ed_t1 (ed_var rfl (.str _))) (ea_cons (ed_tup (ea_cons (ed_var rfl (.str _)) (ea_cons (ed_var rfl qi) (ea_cons ed_int ea_nil))) (le_line (by simp))) (ea_cons ed_non (ea_cons (ed_t2 ed_str (ed_var rfl qi)) (ea_cons (ed_t2 (ed_var rfl (.str _)) ed_bl) (ea_cons (ed_lstO (ea_cons (ed_var rfl (.str _)) (ea_cons (ed_var rfl qi) ea_nil)) (by simp)) (ea_cons (ed_t2 ed_str (ed_var rfl qi)) ea_nil)))))))
    · intro a b y e
      subst e
      simp only [dl, List.mem_cons, List.not_mem_nil, or_false] at hm
      rcases hm with hm | hm | hm | hm | hm | hm | hm | hm
      all_goals cases hm
      exact sts_no rfl
  · dsimp only
    refine k_ret (K := K) (d := .tuple [.str z, di]) (ed_t2 (ed_var rfl (.str _)) (ed_var rfl qi)) fun v H6 s6 q6 => q v _ H6 (w5'.add s6) q6 fun a b y e => ?_
    cases e
end
end Bk

set_option Elab.async false
set_option linter.all false
set_option maxRecDepth 100000
set_option maxHeartbeats 4000000
namespace Bk
open PySem PySem.Spec PyProof.Rows L2

local macro_rules | `(tactic| walk_at "ed") => `(tactic| first
  | assumption
  | exact ed_int | exact ed_bl | exact ed_non | exact ed_str | exact ea_nil | exact ep_none | exact et_yes
  | (apply ed_var rfl; assumption)
  | (apply ea_cons; walk_at "ed"; walk_at "ed")
  | (apply ed_ix; walk_at "ed"; walk_at "ed"; rfl)
  | (apply et_B; walk_at "ed")
  | (apply et_T; walk_at "ed")
  | (apply ed_tup; walk_at "ed"; (apply le_line; simp only [List.length_cons, List.length_nil]; omega))
  | (apply ed_eqI; walk_at "ed"; walk_at "ed")
  | (apply ed_neI; walk_at "ed"; walk_at "ed")
  | (apply ed_eqS; walk_at "ed"; walk_at "ed")
  | (apply ed_neS; walk_at "ed"; walk_at "ed")
  | (apply ed_I0; walk_at "ed"; walk_at "ed")
  | (apply ed_B0; walk_at "ed"; walk_at "ed")
  | (apply ed_neg; walk_at "ed")
  | (apply ed_isN; walk_at "ed")
  | (apply ed_notN; walk_at "ed")
  | (apply ed_lenT; walk_at "ed")
  | (apply ep_some; walk_at "ed")
  | (apply ed_sl; walk_at "ed"; walk_at "ed"; walk_at "ed")
  | (apply el_lst; walk_at "ed"; (apply le_line; simp only [List.length_cons, List.length_nil]; omega))
  | (apply ed_tupL; walk_at "ed")
  | (apply et_not; walk_at "ed")
  | (apply ed_notV; walk_at "ed")
  | (apply ed_isInt; walk_at "ed")
  | (apply ed_isBool; walk_at "ed")
  | (apply ed_isTup; walk_at "ed")
  | (apply ed_isStr; walk_at "ed")
  | (apply ed_andF; walk_at "ed"; rfl)
  | (apply ed_andT; walk_at "ed"; rfl; walk_at "ed")
  | (apply ed_orT; walk_at "ed"; rfl)
  | (apply ed_orF; walk_at "ed"; rfl; walk_at "ed")
  | (apply et_andF; walk_at "ed"; rfl)
  | (apply et_andT; walk_at "ed"; rfl; walk_at "ed")
  | (apply et_orT; walk_at "ed"; rfl)
  | (apply et_orF; walk_at "ed"; rfl; walk_at "ed")
  | (apply ed_andV; walk_at "ed"; (intro _; walk_at "ed"))
  | (apply ed_orV; walk_at "ed"; (intro _; walk_at "ed"))
  | (apply et_and; walk_at "ed"; (intro _; walk_at "ed"))
  | (apply et_or; walk_at "ed"; (intro _; walk_at "ed")))

section
variable {K : PySem.W.Frag} {H : Hp} {σ : L2.St} {ta tb te tv : TE} {tr : TA} {p l : Addr} {D : Ends}
theorem wd_sq {i : Nat} {a : Addr} {ns : List Int} (hs : σ[i]? = some (some (.ref a))) (hq : SqL K H a (ns.map V.int)) : WD K Same (iList K (tVar i)) σ H (ns.map PyData.int) := fun H1 s R k => by
  refine ⟨.ref a, hs, a, rfl, ⟨ns.map V.int, s.seq hq⟩, ?_⟩
  have wk : Walk (Itl K a) (ns.map V.int).length (fun H => SqL K H a (ns.map V.int)) (YAt (ns.map V.int)) := walk_list
  rw [show (ns.map V.int).length = (ns.map PyData.int).length by rw [List.length_map, List.length_map]] at wk
  refine k _ H1 _ _ (Same.refl _) wk (fun H3 c => (s.trans c).seq hq) fun i H3 y H4 c r => ⟨r.1, ?_⟩
  exact (TDs.of_ints ns).getV r.2
theorem k_retNest {ds es : List PyData} (h : EL K te σ H ds) (hr : EA K tr σ H es) (hl : es.length ≤ 100) (k : ∀ l ws p vs H1, Same H H1 → H1 l = some (.lst ws) → TDs K H1 ws ds → TDs K H1 vs es → H1 p = none → D.rt (.ref p) (upd H1 p (.lst (.ref l :: vs)))) : KP (tRet (tLst (tCons te tr)) D) σ H := fun H1 s =>
  h H1 s _ fun l ws H2 nl s2 hl2 tl => hr H2 (s.trans s2) _ fun vs H3 s3 qs => ⟨by rw [List.length_cons, qs.len]; exact le_line (by omega), fun p np => k l ws p vs H3 ((s.trans s2).trans s3) (s3 _ _ hl2) (tl.up s3) qs np⟩
theorem ed_nnilD {n : Nat} {r0 : Addr} {ws : List V} {ds : List PyData} (hp : H r0 = some (.lst ws)) (q : TDs K H ws ds) (ha : EV ta σ H (.ref r0)) (he : ∀ d ∈ ds, EqOk n d) (hn : n < 64) : ED K (tOp (rNeD K) ta (tLst tNil)) σ H (.bool (!ds.isEmpty)) := fun H1 a Q k =>
  ha H1 a _ fun H2 b => by
    obtain ⟨h1, h2⟩ := eo_list he hn
    refine ⟨Nat.zero_le _, fun r nr => ⟨.list ds, .list [], .lst (.inl (.inl (same_new nr _ _ ((a.trans b) _ _ hp)))) (TDs.dp _ _ h1 (q.up ((a.trans b).trans (same_new nr)))), .lst (.inl (.inl upd_same)) .nil, h2, rfl, ?_⟩⟩
    rw [eqv_nilL]
    exact k _ _ (b.trans (same_new nr)) (.bl _)
/-- _law_draw -/
def spDr (K : PySem.W.Frag) : Sp := fun vs H Q _ => vs.length = 1 ∧ ∃ (a : Addr) (ns : List Int), vs = [.ref a] ∧ SqL K H a (ns.map V.int) ∧ ns.length ≤ 100 ∧ ∀ p l H', Same H H' → DR H' p l → Q (.ref p) H'
theorem kw_dput {q : Addr} {cs : Ctl} {a b : Nat} {w : Int} {m : Int} (hd : DR H p l) (hq : H q = some (.dK (encD cs))) (nq : q ≠ p) (ha : σ[a]? = some (some (.ref q))) (hb : σ[b]? = some (some (.int w))) (hv : EWd K p l tv σ H (IntIn m)) (hl : cs.length < 100000)
    (k : ∀ i H1, Wk p l H H1 → 0 ≤ i → i < m → D.nx σ (upd H1 q (.dK (encD (put cs w i))))) : KP (sDPut (tVar a) (tVar b) tv D) σ H := fun H1 s =>
  hv H1 (Wk.of hd s) _ fun v d H2 w2 qv ⟨i, hdi, h0, h1⟩ => by
    subst hdi
    cases qv.int_eq
    refine ⟨.ref q, ha, .int w, hb, q, _, rfl, .inl ⟨encD cs, Sum.inl w, ((Wk.of hd s).trans w2).k _ _ nq hq, rfl, ?_, rfl⟩, ?_⟩
    · rw [encD_len]
      exact Nat.lt_of_lt_of_le hl (le_line (Nat.le_refl _))
    · rw [put_enc]
      exact k i H2 ((Wk.of hd s).trans w2) h0 h1
theorem gok_srt {W t : Int} {cs : Ctl} (h : GOk W (t, cs)) : GOk W (t, srt cs) := gok_of h.t0 h.tW (asc_srt _) fun w v e => h.look (by rw [look_srt] at e; exact e)
theorem gok_del {W t w : Int} {cs : Ctl} (h : GOk W (t, cs)) : GOk W (t, srt (del cs w)) := gok_of h.t0 h.tW (asc_srt _) fun u v e => h.look (by
  rw [look_srt, look_del] at e
  split at e
  · cases e
  · exact e)
theorem gok_put {W t w b : Int} {cs : Ctl} (h : GOk W (t, cs)) (h0 : 0 ≤ w) (h1 : w < W) (h2 : w ≠ t) (hb : b = 0 ∨ b = 1) : GOk W (t, srt (put cs w b)) := gok_of h.t0 h.tW (asc_srt _) fun u v e => by
  rw [look_srt, look_put] at e
  split at e
  · rename_i z
    cases e
    subst z
    exact ⟨h0, h1, h2, hb⟩
  · exact h.look e
theorem put_len1 (cs : Ctl) (w b : Int) : (put cs w b).length ≤ cs.length + 1 := by
  unfold put
  split
  · rw [List.length_map]; omega
  · rw [List.length_append]; exact Nat.le_refl _
end
section
variable {P : Program} {w : World} {K : PySem.W.Frag} {mg : Str → Option Value} {base : Heap}
abbrev NL_draw : List Str := ["_law_script", "_law_seed", "_law_cell"]
theorem scL_draw : FnScope NL_draw ["_law_script"] (defScope sL_draw) := ⟨rfl, rfl, rfl, by decide +kernel, rfl, by decide +kernel, by decide +kernel⟩
theorem ok_draw (T : Fx mg) (D : Df K mg "_law_draw" sL_draw) : Cl P w K mg base 1 "_law_draw" (spDr K) := by
  refine cl_mk D scL_draw (fun _ _ _ _ h => h.1) (fun _ _ _ _ _ _ us hl => match us, hl with | [_], _ => rfl) ?_
  intro f cdv A outer s H vs Q E hr h
  obtain ⟨hl, a, ns, rfl, hq, hn, q⟩ := h
  refine ⟨_, (pss_cons (ps_set (i := 1) scL_draw.nd rfl (.inl rfl) pe_int)
      (pss_cons (ps_for PassesOwn.never rfl (kp_list (K := K) (pv 0)) (pg_name (i := 2) scL_draw.nd rfl (.inl rfl)) (pss_one (ps_set (i := 1) scL_draw.nd rfl (.inl rfl) (pe_op op_mod (pe_callTy call_int1 (by rfl) T.int bt_int (pa_cons (pe_op op_add (pe_op op_add (pe_op op_mul (pv 1) pe_int) (pe_op op_mod (pe_callB call_abs (by rfl) T.abs bt_abs (pa_cons (pe_callTy call_int1 (by rfl) T.int bt_int (pa_cons (pv 2) pa_nil)) pa_nil)) pe_int)) pe_int) pa_nil)) pe_int))))
      (pss_one (ps_ret (pe_lst (pa_cons (pe_lc (own := [("_law_cell", 2)]) (g := gName 2) (tt := tYes) rfl scL_draw.nd (kp_list (K := K) (pv 0)) (blkOk_by (own := [("_law_cell", 2)]) (N := NL_draw) (sc := defScope sL_draw) (by decide +kernel)) (fun _ _ _ _ _ => (pg_name (i := 2) scL_draw.nd rfl (.inl rfl))) (fun _ _ _ _ _ => pts_nil) (fun _ _ _ _ _ => (pe_callB call_abs (by rfl) T.abs bt_abs (pa_cons (pe_callTy call_int1 (by rfl) T.int bt_int (pa_cons (pv 2) pa_nil)) pa_nil)))) (pa_cons (pe_un un_neg pe_int) (pa_cons pe_int (pa_cons (pv 1) pa_nil))))))))), ?_⟩
  refine k_at ?_
  show KP _ [some (.ref a), none, none] H
  refine k_set (K := K) (d := .int 7) ed_int fun v1 H1 s1 q1 => ?_
  cases q1.int_eq
  dsimp only
  refine k_seq (k_for (wd_sq (K := K) (ns := ns) rfl (s1.seq hq)) fun Hs s2 => ?_)
  refine ⟨fun i σ' H' => ∃ sd x, σ' = [some (.ref a), some (.int sd), x] ∧ Same Hs H' ∧ 0 ≤ sd, ⟨7, none, rfl, Same.refl _, by decide⟩, fun i σ' H' h => ?_, fun i d v σ' H' hd q2 h => ?_, fun σ' H' h => ?_⟩
  · obtain ⟨_, _, _, h, _⟩ := h
    exact h
  · obtain ⟨n, hn, rfl⟩ := map_at hd
    cases q2.int_eq
    obtain ⟨sd, x, rfl, s3, h0⟩ := h
    refine k_name ?_
    refine k_set (K := K) (d := .int ((sd * 48271 + (if n < 0 then -n else n) % 65521 + 1) % 2147483647)) (ed_I (ed_int1 (ed_I0 (ed_I0 (ed_I (ed_var rfl (.int _)) ed_int (.inr ⟨by decide, by decide⟩)) (ed_I (ed_abs1 (ed_int1 (ed_var rfl (.int _)))) ed_int (by decide))) ed_int)) ed_int (by decide)) fun v4 H4 s4 q4 => ?_
    cases q4.int_eq
    exact k_mid fun H5 s5 => ⟨_, _, rfl, s3.trans (s4.trans s5), Int.emod_nonneg _ (by decide)⟩
  · obtain ⟨sd, x, rfl, s3, h0⟩ := h
    dsimp only
    apply k_at
    have s13 := s1.trans (s2.trans s3)
    have hl : EL K (tLc (iList K (tVar 0)) (gName 2) tYes (tCB rAbs1 (tCons (tCB rInt1 (tCons (tVar 2) tNil)) tNil)) [2]) [some (.ref a), some (.int sd), x] H' ((ns.map fun n => if n < 0 then -n else n).map PyData.int) := by
      have e : (ns.map fun n => if n < 0 then -n else n).map PyData.int = (((ns.map PyData.int).filter fun _ => true).map fun d => match d with | .int n => .int (if n < 0 then -n else n) | y => y) := by
        rw [filt, List.map_map, List.map_map]
        rfl
      rw [e]
      refine el_lc (fun _ => true) _ (wd_sq (K := K) (ns := ns) rfl (s13.seq hq)) (fun i d v' H5 s5 hd q5 => ?_) (by rw [List.length_map]; omega)
      obtain ⟨n, hn, rfl⟩ := map_at hd
      refine turn_name rfl et_yes fun _ => ed_abs1 (ed_int1 (ed_var rfl q5))
    refine k_retNest (K := K) hl (ea_cons (d := .int (-1)) (ed_neg ed_int) (ea_cons (d := .int 0) ed_int (ea_cons (d := .int sd) (ed_var rfl (.int _)) ea_nil))) (by simp) fun l ws pp vs H5 s5 hl5 tl qs np => ?_
    have hws := tl.ints
    subst hws
    obtain ⟨x1, x2, x3, rfl, y1, y2, y3⟩ := qs.three
    cases y1.int_eq
    cases y2.int_eq
    cases y3.int_eq
    have nlp : l ≠ pp := fun z => by rw [z, np] at hl5; cases hl5
    refine q pp l _ ((s13.trans s5).trans (same_new np)) ⟨_, -1, 0, sd, upd_same, by rw [upd_ne nlp]; exact hl5, nlp, by omega, by omega, h0, fun n m => ?_, by rw [List.length_map]; exact hn⟩
    obtain ⟨y, _, rfl⟩ := List.mem_map.mp m
    split <;> omega
def D_rich (ds : List PyData) : Prop := ∃ W : Int, 1 ≤ W ∧ W ≤ 6 ∧ ds = [.int W, .int 12]
def R_rich (ds : List PyData) (d : PyData) : Prop := ∀ W : Int, ds = [.int W, .int 12] → ∃ gs : List Gate, d = encCi (W, gs) ∧ (∀ g ∈ gs, GOk W g) ∧ gs.length ≤ 12
abbrev NL_rich : List Str := ["_law_draw_here", "_law_wires", "_law_many", "_law_gates", "_law_k", "_law_what", "_law_gate_here", "_law_controls", "_law_wire"]
theorem scL_rich : FnScope NL_rich ["_law_draw_here", "_law_wires", "_law_many"] (defScope sL_rich) := ⟨rfl, rfl, rfl, by decide +kernel, rfl, by decide +kernel, by decide +kernel⟩
theorem ok_L_rich (T : Fx mg) (D : Df K mg "_law_rich" sL_rich) (c_L_take : Cl P w K mg base 1 "_law_take" (spT K 2 D_take R_take)) (c_L_gate : Cl P w K mg base 2 "_law_gate" (spT K 3 D_gt R_gt)) (c_L_ordered : Cl P w K mg base 1 "_law_ordered" (spO K)) : Cl P w K mg base 3 "_law_rich" (spT K 3 D_rich R_rich) := by
  refine cl_mk D scL_rich (fun _ _ _ _ h => h.1) (fun _ _ _ _ _ _ us hl => match us, hl with | [_, _, _], _ => rfl) ?_
  intro f cdv A outer s H vs Q E hr h
  obtain ⟨hl, p, l, rest, ds, rfl, hdr, ht, hD, q⟩ := h
  obtain ⟨W, hW1, hW, rfl⟩ := hD
  obtain ⟨v1, v2, rfl, h1, h2⟩ := ht.two
  cases h1.int_eq
  cases h2.int_eq
  have q : ∀ gs v H', Wk p l H H' → TD K H' v (encCi (W, gs)) → (∀ g ∈ gs, GOk W g) → gs.length ≤ 12 → Q v H' := fun gs v H' w t ok ln => q v _ H' w t fun W' e => by
    injection e with e
    injection e with e
    rw [← e]
    exact ⟨gs, rfl, ok, ln⟩
  refine ⟨_, (pss_cons (ps_set (i := 3) scL_rich.nd rfl (.inl rfl) (pe_lst pa_nil))
      (pss_cons (ps_for PassesOwn.never rfl (pi_range1 (by rfl) T.range (pa_cons (pe_cl c_L_take hr (by omega) (by rfl) (pa_cons (pv 0) (pa_cons (pe_op op_add (pv 2) pe_int) pa_nil))) pa_nil)) (pg_name (i := 4) scL_rich.nd rfl (.inl rfl)) (pss_cons (ps_set (i := 5) scL_rich.nd rfl (.inl rfl) (pe_cl c_L_take hr (by omega) (by rfl) (pa_cons (pv 0) (pa_cons pe_int pa_nil))))
        (pss_cons (ps_set (i := 6) scL_rich.nd rfl (.inl rfl) (pe_cl c_L_gate hr (by omega) (by rfl) (pa_cons (pv 0) (pa_cons (pv 1) (pa_cons pe_int pa_nil)))))
        (Evl.pss_cut (ps_if (PW.pt (pw_and (pt_cmpR (ko_neD (K := K) hr.units) (pv 3) (pe_lst pa_nil) (nomark _)) (pw_and1 (pt_cmpR op_lt (pv 5) pe_int (nomark _))))) (pss_cons (ps_set (i := 6) scL_rich.nd rfl (.inl rfl) (pe_ix (kx_list (K := K)) (pv 3) (pe_cl c_L_take hr (by omega) (by rfl) (pa_cons (pv 0) (pa_cons (pe_callB (kc_len (K := K)) (by rfl) T.len bt_len (pa_cons (pv 3) pa_nil)) pa_nil))) (fun _ _ => rfl)))
          (pss_cons (ps_set (i := 7) scL_rich.nd rfl (.inl rfl) (pe_callTy (kc_dic (K := K) rfl) (by rfl) T.dict bt_dict (pa_cons (pe_ix (kx_tup (K := K)) (pv 6) pe_int (fun _ _ => rfl)) pa_nil)))
          (pss_cons (ps_set (i := 8) scL_rich.nd rfl (.inl rfl) (pe_cl c_L_take hr (by omega) (by rfl) (pa_cons (pv 0) (pa_cons (pv 1) pa_nil))))
          (Evl.pss_cut (ps_if (PW.pt (pw_and (pt_cmpR op_gt (pv 5) pe_int (nomark _)) (pw_and (pt_cmpR op_ne (pv 8) (pe_ix (kx_tup (K := K)) (pv 6) pe_int (fun _ _ => rfl)) (nomark _)) (pw_and1 (pt_cmp (pc_din (hu_of hr) (pv 8) (pv 7))))))) (pss_one (ps_if (pt_cmpR op_eq (pv 5) pe_int (nomark _)) (pss_one (ps_expr (pe_dpop1 (pv 7) (pv 8) ⟨rfl, rfl, rfl, rfl⟩))) (pss_one (ps_dput (hu_of hr) (pv 7) (pv 8) (pe_op op_sub pe_int (pe_dget (hu_of hr) (pv 7) (pv 8) (fun _ _ => rfl))) rfl)))) (pss_one (ps_if (PW.pt (pw_and (pt_cmpR op_gt (pv 5) pe_int (nomark _)) (pw_and1 (pt_cmpR op_ne (pv 8) (pe_ix (kx_tup (K := K)) (pv 6) pe_int (fun _ _ => rfl)) (nomark _))))) (pss_one (ps_dput (hu_of hr) (pv 7) (pv 8) (pe_cl c_L_take hr (by omega) (by rfl) (pa_cons (pv 0) (pa_cons pe_int pa_nil))) rfl)) pss_nil)))
          (pss_one (ps_set (i := 6) scL_rich.nd rfl (.inl rfl) (pe_tupP (pa_cons (pe_ix (kx_tup (K := K)) (pv 6) pe_int (fun _ _ => rfl)) (pa_cons (pe_cl c_L_ordered hr (by omega) (by rfl) (pa_cons (pv 7) pa_nil)) pa_nil))))))))) pss_nil)
        (pss_one (ps_expr (k_app (K := K) (id := "list.append") (pe_bm PySem.F.plainAttrs_list PySem.F.slot_list_append PySem.F.type_list_append mt_append (pv 3) (pa_cons (pv 6) pa_nil)))))))))
      (pss_one (ps_ret (pe_tupP (pa_cons (pv 1) (pa_cons (pe_callTy (kc_tup (K := K)) (by rfl) T.tuple bt_tuple (pa_cons (pv 3) pa_nil)) pa_nil))))))), ?_⟩
  refine k_at ?_
  show KP _ [some (.ref p), some (.int W), some (.int 12), none, none, none, none, none, none] H
  refine k_setL (K := K) (ds := []) (el_lst ea_nil) fun gp ws0 H1 ngp s1 hgp tws => ?_
  cases tws
  have w1 := Wk.of hdr s1
  have ngpp := (hdr.fresh ngp).1
  dsimp only
  refine k_seq (kw_for (K := K) (C := fun n => n ≤ 12) w1.d1 (ew_imp (ew_take (m := 13) rfl (fun H2 w2 => ed_is (ed_I0 (ed_var rfl (.int 12)) ed_int) rfl) (by omega) (by omega)) fun d ⟨i, hd, i0, i1⟩ => ?_) (fun n h => by omega) fun n H2 w2 hn => ?_)
  · obtain ⟨n, rfl⟩ := Int.eq_ofNat_of_zero_le i0
    exact ⟨n, hd, by omega⟩
  refine ⟨fun i σ' H' => ∃ x4 x5 x6 x7 x8 ws gs, σ' = [some (.ref p), some (.int W), some (.int 12), some (.ref gp), x4, x5, x6, x7, x8] ∧ Wk p l H H' ∧ H' gp = some (.lst ws) ∧ TDs K H' ws (gs.map encG) ∧ (∀ g ∈ gs, GOk W g) ∧ gs.length ≤ i,
    fun H3 s3 => ⟨none, none, none, none, none, [], [], rfl, (w1.trans w2).add s3, s3 _ _ (w2.k _ _ ngpp hgp), .nil, fun g m => (by cases m), Nat.le_refl _⟩, fun i σ' H' hi h => ?_, fun σ' H' h => ?_⟩
  · obtain ⟨x4, x5, x6, x7, x8, ws, gs, rfl, w3, hq, tw, hg, hle⟩ := h
    refine kw_set (K := K) w3.d1 (ew_take (m := 6) rfl (fun H4 w4 => ed_int) (by omega) (by omega)) fun v4 d4 H4 w4 q4 ⟨wt, hd4, wt0, wt1⟩ => ?_
    subst hd4
    cases q4.int_eq
    dsimp only
    refine kw_set (K := K) (R := R_gt [.int W, .int 3]) w4.d1 (ew_call (ds := [.int W, .int 3]) rfl (fun H5 w5 => ea_cons (ed_var rfl (.int _)) (ea_cons ed_int ea_nil)) ⟨W, 3, hW1, hW, rfl⟩) fun v5 d5 H5 w5 q5 r5 => ?_
    obtain ⟨g, rfl, gk⟩ := r5 W 3 rfl
    have w35 := w4.trans w5
    have hq5 := w35.k _ _ ngpp hq
    have tw5 := tw.w w35.wx
    have w05 := w3.trans w35
    have lws : ws.length = gs.length := by rw [tw.len, List.length_map]
    dsimp only
    refine k_cut (fun σ' H' => ∃ gv g x7 x8, σ' = [some (.ref p), some (.int W), some (.int 12), some (.ref gp), some (.int (i : Int)), some (.int wt), some gv, x7, x8] ∧ Wk p l H H' ∧ H' gp = some (.lst ws) ∧ TDs K H' ws (gs.map encG) ∧ TD K H' gv (encG g) ∧ GOk W g) ?_ ?_
    · refine kw_if w5.d1 (ewt_pure (b := (!gs.isEmpty) && decide (wt < 4)) fun H6 w6 => et_and (et_T (K := K) (ed_is (ed_nnilD (n := 3) (w6.k _ _ ngpp hq5) (tw5.w w6.wx) (ev_var rfl) (fun d hd => by obtain ⟨g, _, rfl⟩ := List.mem_map.mp hd; exact eo_G g) (by decide)) (by rw [List.isEmpty_map]))) fun _ => et_T (K := K) (ed_B0 (ed_var rfl (.int _)) ed_int)) (fun H6 w6 hb => ?_) (fun H6 w6 hb => ?_)
      · have hne : gs ≠ [] := fun z => by rw [z] at hb; cases hb
        have hpos : 0 < gs.length := List.length_pos_iff.mpr hne
        have hq6 := w6.k _ _ ngpp hq5
        have tw6 := tw5.w w6.wx
        refine kw_set (K := K) (R := fun d => d ∈ gs.map encG) w6.d1 (ew_ixV (m := gs.length) hq6 ngpp tw6 rfl (ew_take (m := gs.length) rfl (fun H7 w7 => ed_is (ed_lenV (w7.k _ _ ngpp hq6) (ev_var rfl)) (by rw [lws])) (by omega) (by omega)) (List.length_map ..)) fun v7 d7 H7 w7 q7 m7 => ?_
        obtain ⟨g7, mg7, rfl⟩ := List.mem_map.mp m7
        have gk7 := hg g7 mg7
        have i7 : TD K H7 v7 (.tuple [.int g7.1, encCs g7.2]) := q7
        have gl7 := gok_small gk7 hW
        have w07 := (w05.trans w6).trans w7
        have hq7 := w7.k _ _ ngpp hq6
        have tw7 := tw6.w w7.wx
        dsimp only
        refine k_setD (cs := g7.2) (edc_dict (K := K) (ed_ix (ed_var rfl i7) ed_int rfl) (gk7.gs hW).nd) fun cp H8 ncp s8 hcp => ?_
        have w08 := w07.add s8
        have ncp0 : H cp = none := by
          have n1 := (w07.d1.fresh ncp).1
          cases hh : H cp with
          | none => rfl
          | some o => rw [w07.k _ _ n1 hh] at ncp; cases ncp
        have ncpp := (hdr.fresh ncp0).1
        have ngc : gp ≠ cp := fun z => by rw [← z, hq7] at ncp; cases ncp
        have hq8 := s8 _ _ hq7
        have tw8 := tw7.up s8
        have i8 := i7.up s8
        dsimp only
        refine kw_set (K := K) w08.d1 (ew_take (m := W) rfl (fun H9 w9 => ed_var rfl (.int _)) (by omega) (by omega)) fun v9 d9 H9 w9 q9 ⟨wr, hd9, wr0, wr1⟩ => ?_
        subst hd9
        cases q9.int_eq
        have w09 := w08.trans w9
        have hcp9 := w9.k _ _ ncpp hcp
        have hq9 := w9.k _ _ ngpp hq8
        have tw9 := tw8.w w9.wx
        have i9 := i8.w w9.wx
        have gk7' : GOk W (g7.1, g7.2) := gk7
        dsimp only
        refine k_cut (fun σ' H' => ∃ res, σ' = [some (.ref p), some (.int W), some (.int 12), some (.ref gp), some (.int (i : Int)), some (.int wt), some v7, some (.ref cp), some (.int wr)] ∧ Wk p l H H' ∧ H' gp = some (.lst ws) ∧ TDs K H' ws (gs.map encG) ∧ TD K H' v7 (.tuple [.int g7.1, encCs g7.2]) ∧ H' cp = some (.dK (encD res)) ∧ (keys res).Nodup ∧ res.length < 64 ∧ GOk W (g7.1, srt res)) ?_ ?_
        · -- the change of the controls
          have mutD : ∀ {Hx o}, Wk p l H9 Hx → Wk p l H (upd Hx cp (.dK o)) ∧ upd Hx cp (.dK o) gp = some (.lst ws) ∧ TDs K (upd Hx cp (.dK o)) ws (gs.map encG) ∧ TD K (upd Hx cp (.dK o)) v7 (.tuple [.int g7.1, encCs g7.2]) := fun {Hx o} wx => by
            have hx : Hx cp = some (.dK (encD g7.2)) := wx.k _ _ ncpp hcp9
            have wd : Wx Hx (upd Hx cp (.dK o)) := wx_dK hx
            exact ⟨(w09.trans wx).mut ncp0, by rw [upd_ne ngc]; exact wx.k _ _ ngpp hq9, (tw9.w wx.wx).w wd, (i9.w wx.wx).w wd⟩
          refine k_if (b := decide (0 < wt) && (!decide (wr = g7.1) && has g7.2 wr)) (et_and (et_T (K := K) (ed_B0 (ed_var rfl (.int _)) ed_int)) fun _ => et_and (et_T (K := K) (ed_neI (ed_var rfl (.int _)) (ed_ix (ed_var rfl i9) ed_int rfl))) fun _ => et_B (K := K) (ed_din (DictAt.of hcp9) (ed_var rfl (.int _)) (ev_var rfl))) (fun hb => ?_) (fun hb => ?_)
          · have hb' : 0 < wt ∧ ¬ wr = g7.1 ∧ has g7.2 wr = true := by simpa using hb
            obtain ⟨y, hy⟩ := Option.isSome_iff_exists.mp hb'.2.2
            have yb := (gk7.look hy).2.2.2
            refine k_if (b := decide (wt = 1)) (et_T (K := K) (ed_eqI (ed_var rfl (.int _)) ed_int)) (fun _ => ?_) (fun _ => ?_)
            · refine k_dpop (K := K) hcp9 (ev_var rfl) (w := wr) (x := y) (ed_var rfl (.int _)) hy fun Ha sa => ?_
              obtain ⟨a1, a2, a3, a4⟩ := mutD (o := encD (del g7.2 wr)) (Wk.of w09.d1 sa)
              have dl := del_len g7.2 wr
              exact ⟨del g7.2 wr, rfl, a1, a2, a3, a4, upd_same, nodup_del (gk7.gs hW).nd _, by omega, gok_del gk7'⟩
            · refine k_dput (K := K) hcp9 (ev_var rfl) (w := wr) (x := 1 - y) (ed_var rfl (.int _)) (ed_I0 ed_int (ed_dget (DictAt.of hcp9) (ev_var rfl) (ed_var rfl (.int _)) hy)) (by omega) fun Ha sa => ?_
              obtain ⟨a1, a2, a3, a4⟩ := mutD (o := encD (put g7.2 wr (1 - y))) (Wk.of w09.d1 sa)
              have pl := put_len1 g7.2 wr (1 - y)
              exact ⟨put g7.2 wr (1 - y), rfl, a1, a2, a3, a4, upd_same, nodup_put (gk7.gs hW).nd _ _, by omega, gok_put gk7' wr0 wr1 hb'.2.1 (by omega)⟩
          · refine k_if1 (b := decide (1 < wt) && !decide (wr = g7.1)) (et_and (et_T (K := K) (ed_B0 (ed_var rfl (.int _)) ed_int)) fun _ => et_T (K := K) (ed_neI (ed_var rfl (.int _)) (ed_ix (ed_var rfl i9) ed_int rfl))) (fun hc => ?_) (fun hc => ?_)
            · have hc' : 1 < wt ∧ ¬ wr = g7.1 := by simpa using hc
              refine kw_dput (K := K) (m := 2) w09.d1 hcp9 ncpp rfl rfl (ew_take rfl (fun Ha wa => ed_int) (by omega) (by omega)) (by omega) fun b Ha wa b0 b1 => ?_
              obtain ⟨a1, a2, a3, a4⟩ := mutD (o := encD (put g7.2 wr b)) wa
              have pl := put_len1 g7.2 wr b
              exact ⟨put g7.2 wr b, rfl, a1, a2, a3, a4, upd_same, nodup_put (gk7.gs hW).nd _ _, by omega, gok_put gk7' wr0 wr1 hc'.2 (by omega)⟩
            · exact k_mid fun Ha sa => ⟨g7.2, rfl, w09.add sa, sa _ _ hq9, tw9.up sa, i9.up sa, sa _ _ hcp9, (gk7.gs hW).nd, by omega, gok_srt gk7'⟩
        · rintro σ' Ha ⟨res, rfl, wa, hqa, twa, ia, hcpa, nda, lna, gka⟩
          apply k_at
          refine k_set (K := K) (d := encG (g7.1, srt res)) (ed_t2 (ed_ix (ed_var rfl ia) ed_int rfl) (ed_callO (ev_var rfl) hcpa nda lna)) fun v10 Hb sb qb => ?_
          exact k_mid fun Hc sc => ⟨v10, _, _, _, rfl, wa.add (sb.trans sc), (sb.trans sc) _ _ hqa, twa.up (sb.trans sc), qb.up sc, gka⟩
      · exact k_mid fun H7 s7 => ⟨v5, g, x7, x8, rfl, (w05.trans w6).add s7, s7 _ _ (w6.k _ _ ngpp hq5), (tw5.w w6.wx).up s7, (q5.w w6.wx).up s7, gk⟩
    · rintro σ' H6 ⟨gv, g6, x7, x8, rfl, w6, hq6, tw6, tg6, gk6⟩
      apply k_at
      refine k_append (K := K) (d := encG g6) hq6 (ev_var rfl) (ed_var rfl tg6) (by omega) fun v7 H7 s7 q7 => ?_
      have wl : Wx H7 (upd H7 gp (.lst (ws ++ [v7]))) := wx_lst (s7 _ _ hq6)
      refine ⟨_, _, _, _, _, ws ++ [v7], gs ++ [g6], rfl, (w6.add s7).mut ngp, upd_same, ?_, ?_, ?_⟩
      · rw [List.map_append]
        exact ((tw6.up s7).w wl).app (.cons (q7.w wl) .nil)
      · intro g m
        rcases List.mem_append.mp m with m | m
        · exact hg g m
        · rw [List.mem_singleton.mp m]
          exact gk6
      · rw [List.length_append, List.length_singleton]
        omega
  · obtain ⟨x4, x5, x6, x7, x8, ws, gs, rfl, w3, hq, tw, hg, hle⟩ := h
    dsimp only
    apply k_at
    refine k_ret (K := K) (d := encCi (W, gs)) (ed_t2 (ed_var rfl (.int _)) (ed_tupV hq tw (ev_var rfl))) fun v H4 s4 q4 => q gs v H4 (w3.add s4) q4 hg (by omega)
end
end Bk

set_option Elab.async false
set_option linter.all false
set_option maxRecDepth 100000
set_option maxHeartbeats 4000000
/-! What the law itself needs. -/
namespace Bk
open PySem PySem.Spec PyProof.Rows L2
section
variable {K : PySem.W.Frag} {H H' : Hp} {σ : L2.St} {ta tb te tn : TE} {tt t u : TT} {tr : TA} {p l : Addr} {D : Ends}
theorem ew_callA {n a : Nat} {Dm : List PyData → Prop} {R : List PyData → PyData → Prop} {Ra : List PyData → Prop} {E : XK} (ha : σ[a]? = some (some (.ref p))) (hr : EWa K p l tr σ H Ra) (hD : ∀ ds, Ra ds → Dm ds ∧ ds.length + 1 = n) :
    EWd K p l (tCall (spT K n Dm R) [] E (tCons (tVar a) tr)) σ H (fun d => ∃ ds, Ra ds ∧ R ds d) := fun H1 w Q k =>
  ⟨.ref p, ha, hr H1 w _ fun vs ds H2 w2 q ra => ⟨by rw [List.append_nil, List.length_cons, q.len]; exact (hD ds ra).2, p, l, vs, ds, by rw [List.append_nil], w2.d1, q, (hD ds ra).1, fun v d H3 w3 qd r => k v d H3 (w2.trans w3) qd ⟨ds, ra, r⟩⟩⟩
theorem k_unp2R {i j : Nat} {R : PyData → Prop} (h : EDR K te σ H R) (hR : ∀ d, R d → ∃ a b, d = .tuple [a, b]) (k : ∀ v w a b H1, Same H H1 → TD K H1 v a → TD K H1 w b → R (.tuple [a, b]) → KP D.nx ((σ.set i (some v)).set j (some w)) H1) :
    KP (tAsg te (gTup K 2 (gCons (gName i) (gCons (gName j) gNil))) D) σ H := fun H1 s => h H1 s _ fun v d H2 s2 q r => by
  obtain ⟨a, b, rfl⟩ := hR d r
  obtain ⟨x, xs, rfl, q1, q2⟩ := q.tup_of
  obtain ⟨x1, x2, rfl, y1, y2⟩ := q2.two
  exact ⟨x, _, rfl, q1.sq, rfl, _, _, rfl, _, _, rfl, rfl, k x1 x2 a b H2 (s.trans s2) y1 y2 r H2 (Same.refl _)⟩
theorem eqv_self {n : Nat} {d : PyData} (h : EqOk n d) : PyData.eqv d d = true := PySem.SeqAt.eqv_refl d h.c
theorem ed_eqLL {n : Nat} {ds es : List PyData} (ha : EL K ta σ H ds) (hb : EL K tb σ H es) (h1 : ∀ d ∈ ds, EqOk n d) (h2 : ∀ d ∈ es, EqOk n d) (hn : n < 64) : ED K (tOp (rEqD K) ta tb) σ H (.bool (PyData.eqv (.list ds) (.list es))) := fun H1 s Q k =>
  ha H1 s _ fun p1 w1 H2 _ s2 hp1 q1 => hb H2 (s.trans s2) _ fun p2 w2 H3 _ s3 hp2 q2 => by
    obtain ⟨a1, a2⟩ := eo_list h1 hn
    obtain ⟨b1, b2⟩ := eo_list h2 hn
    exact ⟨.list ds, .list es, .lst (.inl (.inl (s3 _ _ hp1))) (TDs.dp _ _ a1 (q1.up s3)), .lst (.inl (.inl hp2)) (TDs.dp _ _ b1 q2), a2, b2, k _ H3 (s2.trans s3) (.bl _)⟩
theorem ed_neLL {n : Nat} {ds es : List PyData} (ha : EL K ta σ H ds) (hb : EL K tb σ H es) (h1 : ∀ d ∈ ds, EqOk n d) (h2 : ∀ d ∈ es, EqOk n d) (hn : n < 64) : ED K (tOp (rNeD K) ta tb) σ H (.bool (!PyData.eqv (.list ds) (.list es))) := fun H1 s Q k =>
  ha H1 s _ fun p1 w1 H2 _ s2 hp1 q1 => hb H2 (s.trans s2) _ fun p2 w2 H3 _ s3 hp2 q2 => by
    obtain ⟨a1, a2⟩ := eo_list h1 hn
    obtain ⟨b1, b2⟩ := eo_list h2 hn
    exact ⟨.list ds, .list es, .lst (.inl (.inl (s3 _ _ hp1))) (TDs.dp _ _ a1 (q1.up s3)), .lst (.inl (.inl hp2)) (TDs.dp _ _ b1 q2), a2, b2, k _ H3 (s2.trans s3) (.bl _)⟩
theorem eqv_listSelf {n : Nat} {ds : List PyData} (h : ∀ d ∈ ds, EqOk n d) : PyData.eqv (.list ds) (.list ds) = true := PySem.SeqAt.eqv_refl _ (by
  obtain ⟨_, h2, _⟩ := eo_all h
  rw [PyData.canLay0, h2])
/-- xs + [.. for j in range(what is taken)], each item taking on -/
theorem kw_lcCat {i j a B : Nat} {q : Addr} {ws : List V} {R : PyData → Prop} (hd : DR H p l) (hq : H q = some (.lst ws)) (nq : q ≠ p) (hs : σ[a]? = some (some (.ref q))) (hj : j < σ.length) (hjn : σ[j]? = some none) (hB : B ≤ 1000) (hws : ws.length ≤ 1000)
    (hn : EWd K p l tn σ H (fun d => ∃ n : Nat, d = .int n ∧ n ≤ B)) (he : ∀ (x : V) H1, Wk p l H H1 → EWd K p l te (σ.set j (some x)) H1 R)
    (k : ∀ r zs ds H1, Wk p l H H1 → H r = none → H1 r = some (.lst (ws ++ zs)) → TDs K H1 zs ds → (∀ d ∈ ds, R d) → ds.length ≤ B → KP D.nx (σ.set i (some (.ref r))) H1) :
    KP (tAsg (tOp rCat (tVar a) (tLc (iRng1 (tCons tn tNil)) (gName j) tYes te [j])) (gName i) D) σ H := fun H1 s => by
  refine ⟨.ref q, hs, ?_⟩
  refine hn H1 (Wk.of hd s) _ fun v d H2 w2 qv ⟨n, hdn, hnB⟩ => ?_
  subst hdn
  cases qv.int_eq
  have hw : wipe σ [j] = σ := by
    show σ.set j none = σ
    have := List.set_getElem_self (as := σ) hj
    rw [List.getElem?_eq_getElem hj] at hjn
    rw [Option.some.inj hjn] at this
    exact this
  have w02 := (Wk.of hd s).trans w2
  have key : tLc (iRng1 (tCons (tC (.int (n : Int))) tNil)) (gName j) tYes te [j] σ H2 (fun y H3 => rCat (.ref q) y H3 fun x H1 => gName i x σ H1 D.nx) := ?_
  · exact key
  refine wd_rng (K := K) (σ := σ) (n := n) (ta := tC (.int (n : Int))) ed_int (by omega) H2 (Same.refl _) _ fun J H3 G Y b wk hG hY => fun Dl nD => ?_
  have w03 := w02.add b
  have nD0 : H Dl = none := by
    have n1 := (w03.d1.fresh nD).1
    cases hh : H Dl with
    | none => rfl
    | some o => rw [w03.k _ _ n1 hh] at nD; cases nD
  have hlen : (rngD n).length = n := rngD_len n
  refine lc_it wk (fun i H' => Wk p l H H' ∧ ∃ zs ds, H' Dl = some (.lst zs) ∧ TDs K H' zs ds ∧ (∀ d ∈ ds, R d) ∧ ds.length ≤ i) ⟨w03.add (same_new nD), [], [], upd_same, .nil, fun d m => (by cases m), Nat.le_refl _⟩ (fun i H' _ q => hG H' trivial) (fun i x H' H'' hi hp y => ?_) fun H' hp => ?_
  · obtain ⟨rfl, d, hd, qx⟩ := hY i H' x H'' trivial y
    obtain ⟨w4, zs, ds, hz, tz, hR, hle⟩ := hp
    rw [hw]
    refine ⟨?_, ?_⟩
    · show (σ.set j (some x)).set j none = σ
      rw [List.set_set]
      exact hw
    · show te (σ.set j (some x)) H'' fun y H4 => ∃ acc, H4 Dl = some (.lst acc) ∧ acc.length < sizeLine ∧ _
      refine he x H'' w4 H'' (Wk.refl w4.d1) _ fun y dy H5 w5 qy ry => ?_
      have nDp := (w4.d0.fresh nD0).1
      have hz5 := w5.k _ _ nDp hz
      have wl : Wx H5 (upd H5 Dl (.lst (zs ++ [y]))) := wx_lst hz5
      refine ⟨zs, hz5, ?_, (w4.trans w5).mut nD0, zs ++ [y], ds ++ [dy], upd_same, ((tz.w w5.wx).w wl).app (.cons (qy.w wl) .nil), fun d m => ?_, ?_⟩
      · rw [tz.len]
        exact Nat.lt_of_le_of_lt hle (Nat.lt_of_lt_of_le hi (by rw [hlen]; exact le_line (by omega)))
      · rcases List.mem_append.mp m with m | m
        · exact hR d m
        · rw [List.mem_singleton.mp m]
          exact ry
      · rw [List.length_append, List.length_singleton]
        omega
  · obtain ⟨w4, zs, ds, hz, tz, hR, hle⟩ := hp
    rw [hlen] at hle
    have lz : zs.length = ds.length := tz.len
    refine ⟨q, Dl, ws, zs, rfl, rfl, w4.k _ _ nq hq, hz, le_line (by omega), fun r nr => ?_⟩
    have nr0 : H r = none := by
      have n1 := (w4.d1.fresh nr).1
      cases hh : H r with
      | none => rfl
      | some o => rw [w4.k _ _ n1 hh] at nr; cases nr
    exact k r zs ds _ (w4.add (same_new nr)) nr0 upd_same (tz.up (same_new nr)) hR (by omega) _ (Same.refl _)
theorem applyF_none {a : List PyData} : ∀ {k : Nat} {c : Circ} {n : Int} (b : List PyData), applyF k c a = (none, n) → applyF k c (a ++ b) = (none, n) := by
  induction a with
  | nil => intro k c n b h; cases h
  | cons d r ih =>
    intro k c n b h
    rw [applyF_cons] at h
    rw [List.cons_append, applyF_cons]
    cases hb : behind c d with
    | none => rw [hb] at h; exact h
    | some c2 =>
      rw [hb] at h
      exact ih b h
end
end Bk

set_option Elab.async false
set_option linter.all false
set_option maxRecDepth 100000
set_option maxHeartbeats 4000000
namespace Bk
open PySem PySem.Spec PyProof.Rows L2

local macro_rules | `(tactic| walk_at "ed") => `(tactic| first
  | assumption
  | exact ed_int | exact ed_bl | exact ed_non | exact ed_str | exact ea_nil | exact ep_none | exact et_yes
  | (apply ed_var rfl; assumption)
  | (apply ea_cons; walk_at "ed"; walk_at "ed")
  | (apply ed_ix; walk_at "ed"; walk_at "ed"; rfl)
  | (apply et_B; walk_at "ed")
  | (apply et_T; walk_at "ed")
  | (apply ed_tup; walk_at "ed"; (apply le_line; simp only [List.length_cons, List.length_nil]; omega))
  | (apply ed_eqI; walk_at "ed"; walk_at "ed")
  | (apply ed_neI; walk_at "ed"; walk_at "ed")
  | (apply ed_eqS; walk_at "ed"; walk_at "ed")
  | (apply ed_neS; walk_at "ed"; walk_at "ed")
  | (apply ed_I0; walk_at "ed"; walk_at "ed")
  | (apply ed_B0; walk_at "ed"; walk_at "ed")
  | (apply ed_neg; walk_at "ed")
  | (apply ed_isN; walk_at "ed")
  | (apply ed_notN; walk_at "ed")
  | (apply ed_lenT; walk_at "ed")
  | (apply ep_some; walk_at "ed")
  | (apply ed_sl; walk_at "ed"; walk_at "ed"; walk_at "ed")
  | (apply el_lst; walk_at "ed"; (apply le_line; simp only [List.length_cons, List.length_nil]; omega))
  | (apply ed_tupL; walk_at "ed")
  | (apply et_not; walk_at "ed")
  | (apply ed_notV; walk_at "ed")
  | (apply ed_isInt; walk_at "ed")
  | (apply ed_isBool; walk_at "ed")
  | (apply ed_isTup; walk_at "ed")
  | (apply ed_isStr; walk_at "ed")
  | (apply ed_andF; walk_at "ed"; rfl)
  | (apply ed_andT; walk_at "ed"; rfl; walk_at "ed")
  | (apply ed_orT; walk_at "ed"; rfl)
  | (apply ed_orF; walk_at "ed"; rfl; walk_at "ed")
  | (apply et_andF; walk_at "ed"; rfl)
  | (apply et_andT; walk_at "ed"; rfl; walk_at "ed")
  | (apply et_orT; walk_at "ed"; rfl)
  | (apply et_orF; walk_at "ed"; rfl; walk_at "ed")
  | (apply ed_andV; walk_at "ed"; (intro _; walk_at "ed"))
  | (apply ed_orV; walk_at "ed"; (intro _; walk_at "ed"))
  | (apply et_and; walk_at "ed"; (intro _; walk_at "ed"))
  | (apply et_or; walk_at "ed"; (intro _; walk_at "ed")))

section
variable {P : Program} {w : World} {K : PySem.W.Frag} {mg : Str → Option Value} {base : Heap}
def spLaw (K : PySem.W.Frag) : Sp := fun vs H Q _ => vs.length = 1 ∧ ∃ (a : Addr) (ns : List Int), vs = [.ref a] ∧ SqL K H a (ns.map V.int) ∧ ns.length ≤ 100 ∧ ∀ H', Q (.bl true) H'
theorem k_setDr {σ : L2.St} {H : Hp} {b i : Nat} {a : Addr} {ns : List Int} {E : XK} {D : Ends} (hb : σ[b]? = some (some (.ref a))) (hq : SqL K H a (ns.map V.int)) (hn : ns.length ≤ 100) (k : ∀ p l H1, Same H H1 → DR H1 p l → KP D.nx (σ.set i (some (.ref p))) H1) :
    KP (tAsg (tCall (spDr K) [] E (tCons (tVar b) tNil)) (gName i) D) σ H := fun H1 s1 => ⟨.ref a, hb, rfl, a, ns, rfl, s1.seq hq, hn, fun p l H2 s2 dr => k p l H2 (s1.trans s2) dr H2 (Same.refl _)⟩
theorem eo_encO (o : Option Circ) : EqOk 5 (encO encCi o) := by
  cases o with
  | none => exact eo_none.up
  | some c => exact eo_Ci c
theorem eo_A (r : Option Circ × Int) : EqOk 6 (encA r) := eo_tup fun d hd => by
  rcases List.mem_cons.mp hd with rfl | hd
  · exact eo_encO _
  rcases List.mem_cons.mp hd with rfl | hd
  · exact (eo_int _).up
  · cases hd
theorem eo_ints' (ns : List Int) : ∀ d ∈ ns.map PyData.int, EqOk 0 d := fun d hd => by
  obtain ⟨i, _, rfl⟩ := List.mem_map.mp hd
  exact eo_int i
theorem applyF_len {W : Int} : ∀ {xs : List PyData} {k : Nat} {c c' : Circ} {n : Int}, CS W c → applyF k c xs = (some c', n) → c'.2.length ≤ c.2.length + 2 * xs.length
  | [], k, c, c', n, _, h => by
    cases h
    exact Nat.le_refl _
  | d :: r, k, c, c', n, hc, h => by
    rw [applyF_cons] at h
    cases hb : behind c d with
    | none => rw [hb] at h; cases h
    | some c2 =>
      rw [hb] at h
      obtain ⟨h1, h2, _⟩ := behind_ok hc hb
      have := applyF_len h1 h
      rw [List.length_cons]
      omega
theorem map_same {W : Nat} {c c' : Circ} (h : SameMap W c c') : mapOf c' W = mapOf c W := List.map_congr_left fun k _ => by rw [h _ (bitsOf_ok k W)]
abbrev NLaw : List Str := ["_law_script", "_law_draw_here", "_law_circuit_here", "_law_value_here", "_law_turn", "_law_steps", "_law_stands", "_law_refused", "_law_k", "_law_step_here", "_law_after", "_law_due", "_law_found", "_law_small", "_law_j"]
theorem scLaw : FnScope NLaw ["_law_script"] (defScope sLaw) := ⟨rfl, rfl, rfl, by decide +kernel, rfl, by decide +kernel, by decide +kernel⟩
theorem fn_mk {x : Str} {st : Stmt} {N ps : List Str} {k : Nat} {sp : Sp} {f : Addr} {fd : FuncData} (F : FunD K x x (defArgs st) (defBody st) (defScope st) [] [] f fd) (S : FnScope N ps (defScope st)) (len : ∀ vs H Q E, sp vs H Q E → vs.length = ps.length)
    (body : ∀ (f : Addr) (cdv : Value) (A : Around) (outer : List Env) (s : Shared) (H : Hp) (vs : List V) (Q : VK) (E : XK), Room k (A.deeper (envOfC x (defScope st) s.heap.objs.size f cdv)) → sp vs H Q E →
      ∃ t, PSs (cxOf CX0 P w K mg base N x (defScope st) f cdv A outer s H E).nox (defBody st) t ∧ t { nx := fun _ H' => Q .non H', rt := Q } (start N vs) H) : FnOk P w K mg base CX0 (k + 1) f fd ps sp := by
  refine F.ok S len (fun cdv A outer s H vs Q E hr h => ?_)
  obtain ⟨t, h1, h2⟩ := body f cdv A outer s H vs Q E hr h
  exact ⟨t, h1.nox, h2⟩
theorem ok_law {f0 : Addr} {fd0 : FuncData} (T : Fx mg) (F0 : FunD K "law" "law" (defArgs sLaw) (defBody sLaw) (defScope sLaw) [] [] f0 fd0) (c_L_draw : Cl P w K mg base 1 "_law_draw" (spDr K)) (c_L_take : Cl P w K mg base 1 "_law_take" (spT K 2 D_take R_take)) (c_L_rich : Cl P w K mg base 3 "_law_rich" (spT K 3 D_rich R_rich)) (c_L_gate : Cl P w K mg base 2 "_law_gate" (spT K 3 D_gt R_gt)) (c_L_step : Cl P w K mg base 3 "_law_step" (spT K 2 D_st R_st))
   (c_apply_steps : Cl P w K mg base 5 "apply_steps" (spF K 2 R_steps)) (c_L_behind : Cl P w K mg base 3 "_law_behind" (spF K 2 R_step)) (c_parting : Cl P w K mg base 2 "parting" (spF K 2 R_part)) (c_L_map : Cl P w K mg base 2 "_law_map" (spL K 1 R_map)) (c_shrink : Cl P w K mg base 8 "shrink" (spR K 1 D_work R_shr)) : FnOk P w K mg base CX0 9 f0 fd0 ["_law_script"] (spLaw K) := by
  refine fn_mk F0 scLaw (fun _ _ _ _ h => h.1) ?_
  intro f cdv A outer s H vs Q E hr h
  obtain ⟨hl, a, ns, rfl, hq, hn, q⟩ := h
  refine ⟨_, (pss_cons (ps_set (i := 1) scLaw.nd rfl (.inr rfl) (pe_cl c_L_draw hr (by omega) (by rfl) (pa_cons (pv 0) pa_nil)))
      (pss_cons (ps_set (i := 2) scLaw.nd rfl (.inl rfl) (pe_cl c_L_rich hr (by omega) (by rfl) (pa_cons (pv 1) (pa_cons (pe_op op_add pe_int (pe_cl c_L_take hr (by omega) (by rfl) (pa_cons (pv 1) (pa_cons pe_int pa_nil)))) (pa_cons pe_int pa_nil)))))
      (pss_cons (ps_if (pt_cmpR (ko_neD (K := K) hr.units) (pe_cl c_apply_steps hr (by omega) (by rfl) (pa_cons (pv 2) (pa_cons (pe_tupP pa_nil) pa_nil))) (pe_tupP (pa_cons (pv 2) (pa_cons (pe_un un_neg pe_int) pa_nil))) (nomark _)) (pss_one (ps_ret pe_bl)) pss_nil)
      (Evl.pss_cut (ps_for PassesOwn.never rfl (kp_list (K := K) (pe_lst (pa_cons pe_non (pa_cons pe_int (pa_cons pe_str pa_nil))))) (pg_name (i := 3) scLaw.nd rfl (.inl rfl)) (pss_one (ps_if (pt_cmpR (ko_neD (K := K) hr.units) (pe_cl c_apply_steps hr (by omega) (by rfl) (pa_cons (pv 2) (pa_cons (pv 3) pa_nil))) (pe_tupP (pa_cons pe_non (pa_cons pe_int pa_nil))) (nomark _)) (pss_one (ps_ret pe_bl)) pss_nil)))
      (Evl.pss_cut (ps_for PassesOwn.never rfl (pi_range1 (by rfl) T.range (pa_cons pe_int pa_nil)) (pg_name (i := 4) scLaw.nd rfl (.inl rfl)) (pss_cons (ps_set (i := 5) scLaw.nd rfl (.inl rfl) (pe_lst pa_nil))
        (pss_cons (ps_set (i := 6) scLaw.nd rfl (.inr rfl) (pv 2))
        (pss_cons (ps_set (i := 7) scLaw.nd rfl (.inl rfl) (pe_un un_neg pe_int))
        (Evl.pss_cut (ps_for PassesOwn.never rfl (pi_range1 (by rfl) T.range (pa_cons (pe_cl c_L_take hr (by omega) (by rfl) (pa_cons (pv 1) (pa_cons pe_int pa_nil))) pa_nil)) (pg_name (i := 8) scLaw.nd rfl (.inl rfl)) (pss_cons (ps_set (i := 9) scLaw.nd rfl (.inl rfl) (pe_cl c_L_step hr (by omega) (by rfl) (pa_cons (pv 1) (pa_cons (pv 6) pa_nil))))
          (pss_cons (ps_set (i := 10) scLaw.nd rfl (.inl rfl) (pe_cl c_L_behind hr (by omega) (by rfl) (pa_cons (pv 6) (pa_cons (pv 9) pa_nil))))
          (Evl.pss_cut (ps_if (PW.pt (pw_and (pt_cmp (pc_isN (pv 10))) (pw_and1 (pt_cmpR op_gt (pe_cl c_L_take hr (by omega) (by rfl) (pa_cons (pv 1) (pa_cons pe_int pa_nil))) pe_int (nomark _))))) (pss_cons (ps_set (i := 9) scLaw.nd rfl (.inl rfl) (pe_tupP (pa_cons pe_str (pa_cons (pe_cl c_L_take hr (by omega) (by rfl) (pa_cons (pv 1) (pa_cons (pe_op op_add (pe_callB (kc_len (K := K)) (by rfl) T.len bt_len (pa_cons (pe_ix (kx_tup (K := K)) (pv 6) pe_int (fun _ _ => rfl)) pa_nil)) pe_int) pa_nil))) (pa_cons (pe_cl c_L_gate hr (by omega) (by rfl) (pa_cons (pv 1) (pa_cons (pe_ix (kx_tup (K := K)) (pv 2) pe_int (fun _ _ => rfl)) (pa_cons pe_int pa_nil)))) pa_nil)))))
            (pss_one (ps_set (i := 10) scLaw.nd rfl (.inl rfl) (pe_cl c_L_behind hr (by omega) (by rfl) (pa_cons (pv 6) (pa_cons (pv 9) pa_nil)))))) pss_nil)
          (pss_cons (ps_expr (k_app (K := K) (id := "list.append") (pe_bm PySem.F.plainAttrs_list PySem.F.slot_list_append PySem.F.type_list_append mt_append (pv 5) (pa_cons (pv 9) pa_nil))))
          (pss_cons (ps_if (pt_cmp (pc_isN (pv 10))) (pss_cons (ps_set (i := 7) scLaw.nd rfl (.inl rfl) (pv 8))
            (pss_one ps_break)) pss_nil)
          (pss_one (ps_set (i := 6) scLaw.nd rfl (.inr rfl) (pv 10)))))))))
        (pss_cons (ps_set (i := 11) scLaw.nd rfl (.inl rfl) (pe_tupP (pa_cons (pv 6) (pa_cons (pe_un un_neg pe_int) pa_nil))))
        (Evl.pss_cut (ps_if (pt_cmpR op_ge (pv 7) pe_int (nomark _)) (pss_cons (ps_set (i := 11) scLaw.nd rfl (.inl rfl) (pe_tupP (pa_cons pe_non (pa_cons (pv 7) pa_nil))))
          (pss_one (ps_set (i := 5) scLaw.nd rfl (.inl rfl) (pe_op op_cat (pv 5) (pe_lc (own := [("_law_j", 14)]) (g := gName 14) (tt := tYes) rfl scLaw.nd (pi_range1 (by rfl) T.range (pa_cons (pe_cl c_L_take hr (by omega) (by rfl) (pa_cons (pv 1) (pa_cons pe_int pa_nil))) pa_nil)) (blkOk_by (own := [("_law_j", 14)]) (N := NLaw) (sc := defScope sLaw) (by decide +kernel)) (fun _ _ _ _ _ => (pg_name (i := 14) scLaw.nd rfl (.inl rfl))) (fun _ _ _ _ _ => pts_nil) (fun _ _ _ _ _ => (pe_cl c_L_step hr (by omega) (by rfl) (pa_cons (pv 1) (pa_cons (pv 6) pa_nil))))))))) pss_nil)
        (pss_cons (ps_set (i := 12) scLaw.nd rfl (.inl rfl) (pe_cl c_apply_steps hr (by omega) (by rfl) (pa_cons (pv 2) (pa_cons (pe_callTy (kc_tup (K := K)) (by rfl) T.tuple bt_tuple (pa_cons (pv 5) pa_nil)) pa_nil))))
        (pss_cons (ps_if (pt_cmpR (ko_neD (K := K) hr.units) (pv 12) (pv 11) (nomark _)) (pss_one (ps_ret pe_bl)) pss_nil)
        (pss_cons (ps_if (PW.pt (pw_and (pt_cmp (pc_notN (pe_ix (kx_tup (K := K)) (pv 12) pe_int (fun _ _ => rfl)))) (pw_and1 (pt_cmp (pc_notN (pe_cl c_parting hr (by omega) (by rfl) (pa_cons (pv 2) (pa_cons (pe_ix (kx_tup (K := K)) (pv 12) pe_int (fun _ _ => rfl)) pa_nil)))))))) (pss_one (ps_ret pe_bl)) pss_nil)
        (pss_one (ps_if (PW.pt (pw_and (pt_cmp (pc_notN (pe_ix (kx_tup (K := K)) (pv 12) pe_int (fun _ _ => rfl)))) (pw_and1 (pt_cmpR (ko_neD (K := K) hr.units) (pe_cl c_L_map hr (by omega) (by rfl) (pa_cons (pe_ix (kx_tup (K := K)) (pv 12) pe_int (fun _ _ => rfl)) pa_nil)) (pe_cl c_L_map hr (by omega) (by rfl) (pa_cons (pv 2) pa_nil)) (nomark _))))) (pss_one (ps_ret pe_bl)) pss_nil))))))))))))
      (pss_cons (ps_asg (pe_cl c_shrink hr (by omega) (by rfl) (pa_cons (pv 2) pa_nil)) (kg_tup (K := K) (n := 2) rfl (pgs_cons (pg_name (i := 13) scLaw.nd rfl (.inl rfl)) (pgs_cons (pg_name (i := 5) scLaw.nd rfl (.inl rfl)) pgs_nil))))
      (pss_one (ps_ret (pe_and (pe_cmpR (ko_eqD (K := K) hr.units) (pe_cl c_apply_steps hr (by omega) (by rfl) (pa_cons (pv 2) (pa_cons (pv 5) pa_nil))) (pe_tupP (pa_cons (pv 13) (pa_cons (pe_un un_neg pe_int) pa_nil))) (nomark _)) (pe_one (pe_cmpR (ko_eqD (K := K) hr.units) (pe_cl c_L_map hr (by omega) (by rfl) (pa_cons (pv 13) pa_nil)) (pe_cl c_L_map hr (by omega) (by rfl) (pa_cons (pv 2) pa_nil)) (nomark _)))))))))))), ?_⟩
  refine k_at ?_
  show KP _ [some (.ref a), none, none, none, none, none, none, none, none, none, none, none, none, none, none] H
  -- the draw
  refine k_setDr (K := K) (ns := ns) rfl hq hn fun p l H1 s1 dr => ?_
  dsimp only
  -- the circuit
  refine kw_set (K := K) (R := fun d => ∃ (W : Nat) (gs : List Gate), 1 ≤ W ∧ W ≤ 6 ∧ d = encCi ((W : Int), gs) ∧ (∀ g ∈ gs, GOk W g) ∧ gs.length ≤ 12) dr (ew_imp (ew_callA (Ra := fun ds => ∃ W : Nat, 1 ≤ W ∧ W ≤ 6 ∧ ds = [.int (W : Int), .int 12]) rfl ?_ ?_) ?_) fun v2 d2 H3 w3 q2 hx2 => ?_
  · refine fun Hx wx Q' k' => ewa_cons (ew_addL (m := 6) (ew_take rfl (fun H2 w2 => ed_int) (by omega) (by omega))) (ewa_cons (ew_pure (d := .int 12) fun H2 w2 => ed_int) ewa_nil) Hx wx Q' fun vs ds H2 w2 qs ⟨_, _, hds, ⟨i, hi, i0, i1⟩, _, _, hr2, h12, hn2⟩ => ?_
    obtain ⟨n, rfl⟩ := Int.eq_ofNat_of_zero_le i0
    refine k' vs ds H2 w2 qs ⟨n + 1, by omega, by omega, ?_⟩
    subst hds hr2 h12 hn2 hi
    rw [show (1 : Int) + n = ((n + 1 : Nat) : Int) by omega]
  · rintro ds ⟨W, h1, h2, rfl⟩
    exact ⟨⟨(W : Int), by omega, by omega, rfl⟩, rfl⟩
  · rintro d ⟨ds, ⟨W, h1, h2, rfl⟩, r⟩
    obtain ⟨gs, hd, hg, hl⟩ := r (W : Int) rfl
    exact ⟨W, gs, h1, h2, hd, hg, hl⟩
  obtain ⟨W, gs, hW1, hW, hd2, hgs, hgl⟩ := hx2
  subst hd2
  generalize hc0e : (((W : Int), gs) : Circ) = c0 at q2
  have hc0 : CS W c0 := by rw [← hc0e]; exact ⟨rfl, hgs⟩
  have hl0 : c0.2.length ≤ 12 := by rw [← hc0e]; exact hgl
  have dr3 := w3.d1
  clear hc0e hgs hgl gs
  -- no steps
  dsimp only
  refine k_if1 (b := false) (et_T (K := K) (ed_is (ed_neE (n := 6) (e := encA (some c0, -1)) (ed_call (ds := [encCi c0, .tuple []]) (ea_cons (ed_var rfl q2) (ea_cons ed_t0 ea_nil)) ⟨W, c0, .tuple [], by omega, hc0, fun xs hx => ?_, rfl, rfl⟩) (ed_t2 (ed_var rfl q2) (ed_neg ed_int)) (eo_A _) (eo_A _)) ?_)) (fun h => by cases h) (fun _ => ?_)
  · injection hx with hx
    subst hx
    exact ⟨by show c0.2.length + 2 * 0 ≤ 1000; omega, fun y hy => by cases hy⟩
  · show PyData.bool (!PyData.eqv (encA (some c0, -1)) (encA (some c0, -1))) = .bool false
    rw [eqv_self (eo_A _)]
    rfl
  -- what is no list of steps
  dsimp only
  refine k_cut (fun σ' H' => ∃ x3, σ' = [some (.ref a), some (.ref p), some v2, x3, none, none, none, none, none, none, none, none, none, none, none] ∧ Same H3 H') ?_ ?_
  · refine k_for (K := K) (wd_lst (ds := [.none, .int 7, .str "cancel"]) (el_lst (ea_cons ed_non (ea_cons ed_int (ea_cons ed_str ea_nil))) (le_line (by simp)))) fun Hs s4 => ?_
    refine ⟨fun i σ' H' => ∃ x3, σ' = [some (.ref a), some (.ref p), some v2, x3, none, none, none, none, none, none, none, none, none, none, none] ∧ Same Hs H', ⟨none, rfl, Same.refl _⟩, fun i σ' H' h => ?_, fun i d v σ' H' hd qv h => ?_, fun σ' H' h => ?_⟩
    · obtain ⟨_, _, h⟩ := h
      exact h
    · obtain ⟨x3, rfl, s5⟩ := h
      have hnt : isTupD d = false ∧ applyD c0 d = (none, 0) := by
        have m := List.mem_of_getElem? hd
        simp only [List.mem_cons, List.not_mem_nil, or_false] at m
        rcases m with rfl | rfl | rfl <;> exact ⟨rfl, rfl⟩
      refine k_name ?_
      dsimp only
      refine k_if1 (b := false) (et_T (K := K) (ed_is (ed_neE (n := 6) (e := encA (none, 0)) (ed_call (ds := [encCi c0, d]) (ea_cons (ed_var rfl (q2.up (s4.trans s5))) (ea_cons (ed_var rfl qv) ea_nil)) ⟨W, c0, d, by omega, hc0, fun xs hx => ?_, rfl, rfl⟩) (ed_t2 ed_non ed_int) (eo_A _) (eo_A _)) ?_)) (fun h => by cases h) (fun _ => ?_)
      · rw [hx] at hnt
        cases hnt.1
      · rw [hnt.2, eqv_self (eo_A _)]
        rfl
      · exact k_mid fun H6 s6 => ⟨_, rfl, s5.trans s6⟩
    · obtain ⟨x3, rfl, s5⟩ := h
      exact ⟨x3, rfl, s4.trans s5⟩
  rintro σ' H4 ⟨x3, rfl, s4⟩
  have w4 := Wk.of dr3 s4
  clear s4
  -- three turns
  apply k_at
  refine k_cut (fun σ' H' => ∃ x4 x5 x6 x7 x8 x9 x10 x11 x12, σ' = [some (.ref a), some (.ref p), some v2, x3, x4, x5, x6, x7, x8, x9, x10, x11, x12, none, none] ∧ Wk p l H3 H') ?_ ?_
  · refine k_for (K := K) (wd_rng (K := K) (n := 3) ed_int (by omega)) fun Hs s5 => ?_
    refine ⟨fun i σ' H' => ∃ x4 x5 x6 x7 x8 x9 x10 x11 x12, σ' = [some (.ref a), some (.ref p), some v2, x3, x4, x5, x6, x7, x8, x9, x10, x11, x12, none, none] ∧ Wk p l H3 H', ⟨none, none, none, none, none, none, none, none, none, rfl, w4.add s5⟩, fun _ _ _ _ => trivial, fun i d v σ' Ht hd qv h => ?_, fun σ' H' h => h⟩
    obtain ⟨x4, x5, x6, x7, x8, x9, x10, x11, x12, rfl, wt⟩ := h
    refine k_name ?_
    have qc := q2.w wt.wx
    have drt := wt.d1
    dsimp only
    refine k_setL (K := K) (ds := []) (el_lst ea_nil) fun sp ws0 H5 nsp e5 hsp tws => ?_
    cases tws
    have w5 := Wk.of drt e5
    have nspp := (drt.fresh nsp).1
    dsimp only
    refine k_set (K := K) (d := encCi c0) (ed_var rfl (qc.up e5)) fun sv0 H6 e6 q6 => ?_
    dsimp only
    refine k_set (K := K) (d := .int (-1)) (ed_neg ed_int) fun rv H7 e7 q7 => ?_
    cases q7.int_eq
    have w7 := w5.add (e6.trans e7)
    have hsp7 := (e6.trans e7) _ _ hsp
    have q6 := q6.up e7
    dsimp only
    -- the steps of one turn
    refine k_cut (fun σ' H' => ∃ x8 x9 x10 sv cs xs ws rf, σ' = [some (.ref a), some (.ref p), some v2, x3, some v, some (.ref sp), some sv, some (.int rf), x8, x9, x10, x11, x12, none, none] ∧ Wk p l Ht H' ∧ H' sp = some (.lst ws) ∧ TDs K H' ws xs ∧ (∀ y ∈ xs, StD y) ∧ xs.length ≤ 16 ∧ TD K H' sv (encCi cs) ∧ CS W cs ∧ cs.2.length ≤ 50 ∧
      ((rf = -1 ∧ applyF 0 c0 xs = (some cs, -1)) ∨ ∃ k : Nat, rf = (k : Int) ∧ applyF 0 c0 xs = (none, (k : Int)))) ?_ ?_
    · refine kw_for (K := K) (C := fun n => n ≤ 15) w7.d1 (ew_imp (ew_take (m := 16) rfl (fun H8 w8 => ed_int) (by omega) (by omega)) fun d ⟨i, hd, i0, i1⟩ => ?_) (fun n h => by omega) fun n H8 w8 hn => ?_
      · obtain ⟨n, rfl⟩ := Int.eq_ofNat_of_zero_le i0
        exact ⟨n, hd, by omega⟩
      refine ⟨fun i σ' H' => ∃ x8 x9 x10 sv cs xs ws, σ' = [some (.ref a), some (.ref p), some v2, x3, some v, some (.ref sp), some sv, some (.int (-1)), x8, x9, x10, x11, x12, none, none] ∧ Wk p l Ht H' ∧ H' sp = some (.lst ws) ∧ TDs K H' ws xs ∧ (∀ y ∈ xs, StD y) ∧ xs.length = i ∧ TD K H' sv (encCi cs) ∧ CS W cs ∧ cs.2.length ≤ 12 + 2 * i ∧ applyF 0 c0 xs = (some cs, -1),
        fun H9 s9 => ⟨x8, x9, x10, sv0, c0, [], [], rfl, (w7.trans w8).add s9, s9 _ _ (w8.k _ _ nspp hsp7), .nil, fun y m => (by cases m), rfl, (q6.w w8.wx).up s9, hc0, by omega, rfl⟩, fun i σ' H' hi h => ?_, fun σ' H' h => ?_⟩
      · obtain ⟨x8, x9, x10, sv, cs, xs, ws, rfl, w9, hq9, tw9, hst, hlen, tc9, hcs, hcl, hap⟩ := h
        have lws : ws.length = i := by rw [tw9.len, hlen]
        refine kw_set (K := K) (R := StD) w9.d1 (ew_call (Dm := D_st) (R := R_st) (ds := [encCi cs]) rfl (fun Ha wa => ea_cons (ed_var rfl (tc9.w wa.wx)) ea_nil) ⟨(W : Int), cs, by omega, by omega, hcs, by omega, rfl⟩) fun vd dd Ha wa qd std => ?_
        have tca := tc9.w wa.wx
        dsimp only
        refine k_set (K := K) (d := encO encCi (behind cs dd)) (ed_call (ds := [encCi cs, dd]) (ea_cons (ed_var rfl tca) (ea_cons (ed_var rfl qd) ea_nil)) ⟨(W : Int), cs, dd, by omega, hcs, by omega, std, rfl, rfl⟩) fun va Hb eb qb => ?_
        have wb := (w9.trans wa).add eb
        have hqb := eb _ _ (wa.k _ _ nspp hq9)
        have twb := (tw9.w wa.wx).up eb
        have tcb := tca.up eb
        have qd := qd.up eb
        dsimp only
        refine k_cut (fun σ' H' => ∃ vd dd va, σ' = [some (.ref a), some (.ref p), some v2, x3, some v, some (.ref sp), some sv, some (.int (-1)), some (.int (i : Int)), some vd, some va, x11, x12, none, none] ∧ Wk p l Ht H' ∧ H' sp = some (.lst ws) ∧ TDs K H' ws xs ∧ TD K H' sv (encCi cs) ∧ TD K H' vd dd ∧ StD dd ∧ TD K H' va (encO encCi (behind cs dd))) ?_ ?_
        · refine kw_if wb.d1 (ewt_and (fun Hc wc => et_B (K := K) (ed_isN (d := encO encCi (behind cs dd)) (ed_var rfl (qb.w wc.wx)))) fun _ => ewt_cmp (K := K) (ew_take rfl (fun Hc wc => ed_int) (m := 5) (by omega) (by omega))) (fun Hc wc _ => ?_) (fun Hc wc _ => ?_)
          · have tcc : TD K Hc sv (.tuple [.int cs.1, encGs cs.2]) := tcb.w wc.wx
            have lg : (cs.2.map encG).length = cs.2.length := List.length_map ..
            have qcc : TD K Hc v2 (.tuple [.int c0.1, encGs c0.2]) := (qc.w (wb.trans wc).wx)
            refine kw_set (K := K) (R := StD) wc.d1 (ew_imp (ew_tup (ewa_cons (ew_pure (d := .str "pair") fun Hd wd => ed_str) (ewa_cons (ew_take (m := (cs.2.length : Int) + 1) rfl (fun Hd wd => ed_I0 (ed_is (ed_lenT (ds := cs.2.map encG) (ed_ix (ed_var rfl (tcc.w wd.wx)) ed_int rfl)) (by rw [lg])) ed_int) (by omega) (by omega)) (ewa_cons (R1 := StS) (ew_imp (ew_call (Dm := D_gt) (R := R_gt) (ds := [.int (W : Int), .int 3]) rfl (fun Hd wd => ea_cons (ed_is (ed_ix (ed_var rfl (qcc.w wd.wx)) ed_int rfl) (by rw [hc0.w])) (ea_cons ed_int ea_nil)) ⟨(W : Int), 3, by omega, by omega, rfl⟩) ?_) ewa_nil))) ?_) ?_) fun ve de He we qe ste => ?_
            · intro d r
              obtain ⟨g, rfl, gk⟩ := r (W : Int) 3 rfl
              exact sts_gate gk (by omega)
            · rintro _ ⟨_, _, rfl, _, _, _, rfl, _, _, _, rfl, _, rfl⟩
              simp
            · rintro _ ⟨_, rfl, _, _, rfl, rfl, _, _, rfl, _, y, _, rfl, hy, rfl⟩
              intro a' b' y' e
              injection e with e
              injection e with _ e
              injection e with _ e
              injection e with e _
              rw [← e]
              exact hy
            have tce := (tcb.w wc.wx).w we.wx
            dsimp only
            refine k_set (K := K) (d := encO encCi (behind cs de)) (ed_call (ds := [encCi cs, de]) (ea_cons (ed_var rfl tce) (ea_cons (ed_var rfl qe) ea_nil)) ⟨(W : Int), cs, de, by omega, hcs, by omega, ste, rfl, rfl⟩) fun vf Hf ef qf => ?_
            exact k_mid fun Hg eg => ⟨ve, de, vf, rfl, ((wb.trans wc).trans we).add (ef.trans eg), (ef.trans eg) _ _ (we.k _ _ nspp (wc.k _ _ nspp hqb)), ((twb.w wc.wx).w we.wx).up (ef.trans eg), tce.up (ef.trans eg), qe.up (ef.trans eg), ste, qf.up eg⟩
          · exact k_mid fun Hg eg => ⟨vd, dd, va, rfl, (wb.trans wc).add eg, eg _ _ (wc.k _ _ nspp hqb), (twb.w wc.wx).up eg, (tcb.w wc.wx).up eg, (qd.w wc.wx).up eg, std, (qb.w wc.wx).up eg⟩
        rintro σ' Hc ⟨vd, dd, va, rfl, wc, hqc, twc, tcc, qd, std, qa⟩
        apply k_at
        refine k_append (K := K) (d := dd) hqc (ev_var rfl) (ed_var rfl qd) (by omega) fun vz Hd ed qz => ?_
        have wl : Wx Hd (upd Hd sp (.lst (ws ++ [vz]))) := wx_lst (ed _ _ hqc)
        have we : Wk p l Ht (upd Hd sp (.lst (ws ++ [vz]))) := (wc.add ed).mut nsp
        have hqe : upd Hd sp (.lst (ws ++ [vz])) sp = some (.lst (ws ++ [vz])) := upd_same
        have twe : TDs K (upd Hd sp (.lst (ws ++ [vz]))) (ws ++ [vz]) (xs ++ [dd]) := ((twc.up ed).w wl).app (.cons (qz.w wl) .nil)
        have tce := (tcc.up ed).w wl
        have qae := (qa.up ed).w wl
        have hste : ∀ y ∈ xs ++ [dd], StD y := fun y m => by
          rcases List.mem_append.mp m with m | m
          · exact hst y m
          · rw [List.mem_singleton.mp m]
            exact std
        have hlene : (xs ++ [dd]).length = i + 1 := by rw [List.length_append, hlen, List.length_singleton]
        have hape : applyF 0 c0 (xs ++ [dd]) = match behind cs dd with | none => (none, (i : Int)) | some c' => (some c', -1) := by
          rw [applyF_app _ hap, hlen, Nat.zero_add, applyF_cons]
          cases behind cs dd <;> rfl
        dsimp only
        generalize upd Hd sp (.lst (ws ++ [vz])) = He at we hqe twe tce qae
        apply k_at
        cases hbe : behind cs dd with
        | none =>
          rw [hbe] at hape qae
          refine k_if1 (b := true) (et_B (K := K) (ed_isN (d := .none) (ed_var rfl qae))) (fun _ => ?_) (fun h => by cases h)
          refine k_set (K := K) (d := .int (i : Int)) (ed_var rfl (.int _)) fun vr Hf ef qf => ?_
          cases qf.int_eq
          exact k_mid fun Hg eg => ⟨_, _, _, sv, cs, xs ++ [dd], _, (i : Int), rfl, we.add (ef.trans eg), (ef.trans eg) _ _ hqe, twe.up (ef.trans eg), hste, by omega, tce.up (ef.trans eg), hcs, by omega, .inr ⟨i, rfl, hape⟩⟩
        | some c' =>
          rw [hbe] at hape qae
          obtain ⟨hc', hl', _⟩ := behind_ok hcs hbe
          refine k_if1 (b := false) (et_B (K := K) (ed_isN (d := encCi c') (ed_var rfl qae))) (fun h => by cases h) (fun _ => ?_)
          dsimp only
          refine k_set (K := K) (d := encCi c') (ed_var rfl qae) fun vs Hf ef qf => ?_
          exact k_mid fun Hg eg => ⟨_, _, _, vs, c', xs ++ [dd], _, rfl, we.add (ef.trans eg), (ef.trans eg) _ _ hqe, twe.up (ef.trans eg), hste, hlene, qf.up eg, hc', by omega, hape⟩
      · obtain ⟨x8, x9, x10, sv, cs, xs, ws, rfl, w9, hq9, tw9, hst, hlen, tc9, hcs, hcl, hap⟩ := h
        exact ⟨x8, x9, x10, sv, cs, xs, ws, -1, rfl, w9, hq9, tw9, hst, by omega, tc9, hcs, by omega, .inl ⟨rfl, hap⟩⟩
    rintro σ' H8 ⟨x8, x9, x10, sv, cs, xs, ws, rf, rfl, w8, hq8, tw8, hst, hlx, tc8, hcs, hcl, hres⟩
    apply k_at
    refine k_set (K := K) (d := encA (some cs, -1)) (ed_t2 (ed_var rfl tc8) (ed_neg ed_int)) fun dv H9 e9 q9 => ?_
    have w9 := w8.add e9
    have hq9 := e9 _ _ hq8
    have tw9 := tw8.up e9
    have tc9 := tc8.up e9
    have lws : ws.length ≤ 16 := by rw [tw8.len]; exact hlx
    dsimp only
    -- what is due
    refine k_cut (fun σ' H' => ∃ sp' dv ws' ys, σ' = [some (.ref a), some (.ref p), some v2, x3, some v, some (.ref sp'), some sv, some (.int rf), x8, x9, x10, some dv, x12, none, none] ∧ Wk p l Ht H' ∧ H' sp' = some (.lst ws') ∧ TDs K H' ws' ys ∧ (∀ y ∈ ys, StD y) ∧ ys.length ≤ 20 ∧ TD K H' dv (encA (applyF 0 c0 ys))) ?_ ?_
    · rcases hres with ⟨rfl, hap⟩ | ⟨kk, rfl, hap⟩
      · refine k_if1 (b := false) (et_is (et_T (K := K) (ed_B0 (ed_var rfl (.int _)) ed_int)) (by decide)) (fun h => by cases h) (fun _ => ?_)
        exact k_mid fun Ha ea => ⟨sp, dv, ws, xs, rfl, w9.add ea, ea _ _ hq9, tw9.up ea, hst, by omega, by rw [hap]; exact q9.up ea⟩
      · refine k_if1 (b := true) (et_is (et_T (K := K) (ed_B0 (ed_var rfl (.int _)) ed_int)) (decide_eq_true (by omega))) (fun _ => ?_) (fun h => by cases h)
        refine k_set (K := K) (d := encA (none, (kk : Int))) (ed_t2 ed_non (ed_var rfl (.int _))) fun dv2 Ha ea qa => ?_
        have wa := w9.add ea
        have hqa := ea _ _ hq9
        have tca := tc9.up ea
        dsimp only
        refine kw_lcCat (K := K) (B := 2) (R := StD) wa.d1 hqa nspp rfl (by simp) rfl (by omega) (by omega) (ew_imp (ew_take (m := 3) rfl (fun Hb wb => ed_int) (by omega) (by omega)) fun d ⟨i, hd, i0, i1⟩ => ?_) (fun x Hb wb => ew_call (Dm := D_st) (R := R_st) (ds := [encCi cs]) rfl (fun Hc wc => ea_cons (ed_var rfl ((tca.w wb.wx).w wc.wx)) ea_nil) ⟨(W : Int), cs, by omega, by omega, hcs, by omega, rfl⟩) fun r zs ds Hb wb nr hr tz hR hlz => ?_
        · obtain ⟨n, rfl⟩ := Int.eq_ofNat_of_zero_le i0
          exact ⟨n, hd, by omega⟩
        refine k_mid fun Hc ec => ⟨r, dv2, ws ++ zs, xs ++ ds, rfl, (wa.trans wb).add ec, ec _ _ hr, (((tw9.up ea).w wb.wx).app tz).up ec, fun y m => ?_, ?_, ?_⟩
        · rcases List.mem_append.mp m with m | m
          · exact hst y m
          · exact hR y m
        · rw [List.length_append]
          omega
        · rw [applyF_none ds hap]
          exact (qa.w wb.wx).up ec
    rintro σ' Ha ⟨sp', dv, ws', ys, rfl, wa, hqa, twa, hys, hly, qdv⟩
    have qca := qc.w wa.wx
    apply k_at
    refine k_set (K := K) (d := encA (applyF 0 c0 ys)) (ed_call (ds := [encCi c0, .tuple ys]) (ea_cons (ed_var rfl qca) (ea_cons (ed_tupV hqa twa (ev_var rfl)) ea_nil)) ⟨W, c0, .tuple ys, by omega, hc0, fun zs hz => ?_, rfl, rfl⟩) fun fv Hb eb qb => ?_
    · injection hz with hz
      subst hz
      exact ⟨by omega, hys⟩
    have qdb := qdv.up eb
    have qcb := qca.up eb
    have wb := wa.add eb
    dsimp only
    refine k_if1 (b := false) (et_T (K := K) (ed_is (ed_neE (n := 6) (ed_var rfl qb) (ed_var rfl qdb) (eo_A _) (eo_A _)) ?_)) (fun h => by cases h) (fun _ => ?_)
    · rw [eqv_self (eo_A _)]
      rfl
    have fin : ∀ {Hx : Hp}, Wk p l Ht Hx → ∃ x4 x5 x6 x7 x8' x9' x10' x11 x12, [some (.ref a), some (.ref p), some v2, x3, some v, some (.ref sp'), some sv, some (.int rf), x8, x9, x10, some dv, some fv, none, none] = [some (.ref a), some (.ref p), some v2, x3, x4, x5, x6, x7, x8', x9', x10', x11, x12, none, none] ∧ Wk p l H3 Hx := fun wx => ⟨_, _, _, _, _, _, _, _, _, rfl, wt.trans wx⟩
    cases hao : applyF 0 c0 ys with
    | mk o kk =>
    rw [hao] at qb
    have qb' : TD K Hb fv (.tuple [encO encCi o, .int kk]) := qb
    have f0 : ∀ {Hx}, Same Hb Hx → ED K (tOp (rIxT K) (tVar 12) (tC (V.int 0))) [some (.ref a), some (.ref p), some v2, x3, some v, some (.ref sp'), some sv, some (.int rf), x8, x9, x10, some dv, some fv, none, none] Hx (encO encCi o) := fun e => ed_ix (ed_var rfl (qb'.up e)) ed_int rfl
    dsimp only
    cases o with
    | none =>
      refine k_if1 (b := false) (et_andF (et_B (K := K) (ed_notN (d := .none) (f0 (Same.refl _)))) rfl) (fun h => by cases h) (fun _ => ?_)
      dsimp only
      refine k_if1 (b := false) (et_andF (et_B (K := K) (ed_notN (d := .none) (f0 (Same.refl _)))) rfl) (fun h => by cases h) (fun _ => ?_)
      exact k_mid fun Hx ex => fin (wb.add ex)
    | some c' =>
      obtain ⟨hc', _, hm⟩ := applyF_ok hc0 hao
      have hl' := applyF_len hc0 hao
      refine k_if1 (b := false) (et_is (et_and (et_B (K := K) (ed_notN (d := encCi c') (f0 (Same.refl _)))) fun _ => et_B (K := K) (ed_notN (d := .none) (ed_call (ds := [encCi c0, encCi c']) (ea_cons (ed_var rfl qcb) (ea_cons (f0 (Same.refl _)) ea_nil)) ⟨W, c0, c', by omega, hc0, hc', by omega, by omega, hm, rfl, rfl⟩))) rfl) (fun h => by cases h) (fun _ => ?_)
      dsimp only
      refine k_if1 (b := false) (et_is (et_and (et_B (K := K) (ed_notN (d := encCi c') (f0 (Same.refl _)))) fun _ => et_T (K := K) (ed_neLL (n := 0) (el_call (ds := [encCi c']) (ea_cons (f0 (Same.refl _)) ea_nil) ⟨W, c', by omega, hc', rfl, rfl⟩) (el_call (ds := [encCi c0]) (ea_cons (ed_var rfl qcb) ea_nil) ⟨W, c0, by omega, hc0, rfl, rfl⟩) (eo_ints' _) (eo_ints' _) (by omega))) ?_) (fun h => by cases h) (fun _ => ?_)
      · rw [map_same hm, eqv_listSelf (eo_ints' _)]
        rfl
      · exact k_mid fun Hx ex => fin (wb.add ex)
  rintro σ' H5 ⟨x4, x5, x6, x7, x8, x9, x10, x11, x12, rfl, w5⟩
  have qc5 := q2.w w5.wx
  apply k_at
  -- the small one
  refine k_unp2R (R := R_shr [encCi c0]) (edr_call (ea_cons (ed_var rfl qc5) ea_nil) ⟨(W : Int), c0, by omega, hc0, by omega, rfl⟩) (fun d r => ?_) fun v6 v7 da db H6 e6 q6 q7 r6 => ?_
  · obtain ⟨ss, c', rfl, _⟩ := r c0 rfl
    exact ⟨_, _, rfl⟩
  obtain ⟨ss, c', hd, hap, hle⟩ := r6 c0 rfl
  injection hd with hd
  injection hd with hd1 hd
  injection hd with hd2 _
  subst hd1 hd2
  obtain ⟨hc', _, hm⟩ := applyF_ok hc0 hap
  have qc6 := qc5.up e6
  dsimp only
  refine k_ret (K := K) (d := .bool true) (ed_andT (ed_is (ed_eqE (n := 6) (e := encA (some c', -1)) (ed_call (ds := [encCi c0, .tuple (ss.map sd)]) (ea_cons (ed_var rfl qc6) (ea_cons (ed_var rfl q7) ea_nil)) ⟨W, c0, _, by omega, hc0, fun zs hz => ?_, rfl, rfl⟩) (ed_t2 (ed_var rfl q6) (ed_neg ed_int)) (eo_A _) (eo_A _)) ?_) rfl (ed_is (ed_eqLL (n := 0) (el_call (ds := [encCi c']) (ea_cons (ed_var rfl q6) ea_nil) ⟨W, c', by omega, hc', rfl, rfl⟩) (el_call (ds := [encCi c0]) (ea_cons (ed_var rfl qc6) ea_nil) ⟨W, c0, by omega, hc0, rfl, rfl⟩) (eo_ints' _) (eo_ints' _) (by omega)) ?_)) fun v H7 e7 q8 => ?_
  · injection hz with hz
    subst hz
    refine ⟨by rw [List.length_map]; omega, fun y hy => ?_⟩
    obtain ⟨z, _, rfl⟩ := List.mem_map.mp hy
    exact std_sd z
  · show PyData.bool (PyData.eqv (encA (applyF 0 c0 (ss.map sd))) (encA (some c', -1))) = .bool true
    rw [hap, eqv_self (eo_A _)]
  · rw [map_same hm, eqv_listSelf (eo_ints' _)]
  · cases q8.bl_eq
    exact q H7
end
end Bk

set_option Elab.async false
set_option linter.all false
set_option maxRecDepth 100000
set_option maxHeartbeats 0
namespace Bk
open PySem PySem.Spec PyProof.Rows L2
def dis_number : He.DefD := ⟨("is_number", none), "is_number", "is_number", defArgs sis_number, defBody sis_number, defScope sis_number, [], []⟩
def dis_gate : He.DefD := ⟨("is_gate", none), "is_gate", "is_gate", defArgs sis_gate, defBody sis_gate, defScope sis_gate, [], []⟩
def dwires_of : He.DefD := ⟨("wires_of", none), "wires_of", "wires_of", defArgs swires_of, defBody swires_of, defScope swires_of, [], []⟩
def drun_circuit : He.DefD := ⟨("run_circuit", none), "run_circuit", "run_circuit", defArgs srun_circuit, defBody srun_circuit, defScope srun_circuit, [], []⟩
def dconflict : He.DefD := ⟨("conflict", none), "conflict", "conflict", defArgs sconflict, defBody sconflict, defScope sconflict, [], []⟩
def dexchanged : He.DefD := ⟨("exchanged", none), "exchanged", "exchanged", defArgs sexchanged, defBody sexchanged, defScope sexchanged, [], []⟩
def dmerged : He.DefD := ⟨("merged", none), "merged", "merged", defArgs smerged, defBody smerged, defScope smerged, [], []⟩
def dsplit : He.DefD := ⟨("split", none), "split", "split", defArgs ssplit, defBody ssplit, defScope ssplit, [], []⟩
def dpassed : He.DefD := ⟨("passed", none), "passed", "passed", defArgs spassed, defBody spassed, defScope spassed, [], []⟩
def dnew_gates : He.DefD := ⟨("new_gates", none), "new_gates", "new_gates", defArgs snew_gates, defBody snew_gates, defScope snew_gates, [], []⟩
def dapply_step : He.DefD := ⟨("apply_step", none), "apply_step", "apply_step", defArgs sapply_step, defBody sapply_step, defScope sapply_step, [], []⟩
def dapply_steps : He.DefD := ⟨("apply_steps", none), "apply_steps", "apply_steps", defArgs sapply_steps, defBody sapply_steps, defScope sapply_steps, [], []⟩
def dcan_reach : He.DefD := ⟨("can_reach", none), "can_reach", "can_reach", defArgs scan_reach, defBody scan_reach, defScope scan_reach, [], []⟩
def dsame_gate : He.DefD := ⟨("same_gate", none), "same_gate", "same_gate", defArgs ssame_gate, defBody ssame_gate, defScope ssame_gate, [], []⟩
def dcan_merge : He.DefD := ⟨("can_merge", none), "can_merge", "can_merge", defArgs scan_merge, defBody scan_merge, defScope scan_merge, [], []⟩
def dfirst_pair : He.DefD := ⟨("first_pair", none), "first_pair", "first_pair", defArgs sfirst_pair, defBody sfirst_pair, defScope sfirst_pair, [], []⟩
def dgathered : He.DefD := ⟨("gathered", none), "gathered", "gathered", defArgs sgathered, defBody sgathered, defScope sgathered, [], []⟩
def dcancelling : He.DefD := ⟨("cancelling", none), "cancelling", "cancelling", defArgs scancelling, defBody scancelling, defScope scancelling, [], []⟩
def dmerging : He.DefD := ⟨("merging", none), "merging", "merging", defArgs smerging, defBody smerging, defScope smerging, [], []⟩
def dshrink : He.DefD := ⟨("shrink", none), "shrink", "shrink", defArgs sshrink, defBody sshrink, defScope sshrink, [], []⟩
def das_bits : He.DefD := ⟨("as_bits", none), "as_bits", "as_bits", defArgs sas_bits, defBody sas_bits, defScope sas_bits, [], []⟩
def dparting : He.DefD := ⟨("parting", none), "parting", "parting", defArgs sparting, defBody sparting, defScope sparting, [], []⟩
def dL_draw : He.DefD := ⟨("_law_draw", none), "_law_draw", "_law_draw", defArgs sL_draw, defBody sL_draw, defScope sL_draw, [], []⟩
def dL_take : He.DefD := ⟨("_law_take", none), "_law_take", "_law_take", defArgs sL_take, defBody sL_take, defScope sL_take, [], []⟩
def dL_gate : He.DefD := ⟨("_law_gate", none), "_law_gate", "_law_gate", defArgs sL_gate, defBody sL_gate, defScope sL_gate, [], []⟩
def dL_turned : He.DefD := ⟨("_law_turned", none), "_law_turned", "_law_turned", defArgs sL_turned, defBody sL_turned, defScope sL_turned, [], []⟩
def dL_bits : He.DefD := ⟨("_law_bits", none), "_law_bits", "_law_bits", defArgs sL_bits, defBody sL_bits, defScope sL_bits, [], []⟩
def dL_value : He.DefD := ⟨("_law_value", none), "_law_value", "_law_value", defArgs sL_value, defBody sL_value, defScope sL_value, [], []⟩
def dL_map : He.DefD := ⟨("_law_map", none), "_law_map", "_law_map", defArgs sL_map, defBody sL_map, defScope sL_map, [], []⟩
def dL_free : He.DefD := ⟨("_law_free", none), "_law_free", "_law_free", defArgs sL_free, defBody sL_free, defScope sL_free, [], []⟩
def dL_ordered : He.DefD := ⟨("_law_ordered", none), "_law_ordered", "_law_ordered", defArgs sL_ordered, defBody sL_ordered, defScope sL_ordered, [], []⟩
def dL_one : He.DefD := ⟨("_law_one", none), "_law_one", "_law_one", defArgs sL_one, defBody sL_one, defScope sL_one, [], []⟩
def dL_passed : He.DefD := ⟨("_law_passed", none), "_law_passed", "_law_passed", defArgs sL_passed, defBody sL_passed, defScope sL_passed, [], []⟩
def dL_is_gate : He.DefD := ⟨("_law_is_gate", none), "_law_is_gate", "_law_is_gate", defArgs sL_is_gate, defBody sL_is_gate, defScope sL_is_gate, [], []⟩
def dL_behind : He.DefD := ⟨("_law_behind", none), "_law_behind", "_law_behind", defArgs sL_behind, defBody sL_behind, defScope sL_behind, [], []⟩
def dL_split : He.DefD := ⟨("_law_split", none), "_law_split", "_law_split", defArgs sL_split, defBody sL_split, defScope sL_split, [], []⟩
def dL_step : He.DefD := ⟨("_law_step", none), "_law_step", "_law_step", defArgs sL_step, defBody sL_step, defScope sL_step, [], []⟩
def dL_rich : He.DefD := ⟨("_law_rich", none), "_law_rich", "_law_rich", defArgs sL_rich, defBody sL_rich, defScope sL_rich, [], []⟩
def dLaw : He.DefD := ⟨("law", none), "law", "law", defArgs sLaw, defBody sLaw, defScope sLaw, [], []⟩
def fn1 : List He.DefD := [dis_number, dis_gate, dwires_of, drun_circuit, dconflict, dexchanged, dmerged, dsplit, dpassed, dnew_gates, dapply_step, dapply_steps, dcan_reach, dsame_gate, dcan_merge, dfirst_pair, dgathered, dcancelling, dmerging, dshrink, das_bits, dparting, dL_draw, dL_take, dL_gate, dL_turned, dL_bits, dL_value, dL_map, dL_free, dL_ordered, dL_one, dL_passed, dL_is_gate, dL_behind, dL_split, dL_step, dL_rich, dLaw]
def fa1 : List He.Fa := [.glo "is_number", .glo "is_gate", .glo "wires_of", .glo "run_circuit", .glo "conflict", .glo "exchanged", .glo "merged", .glo "split", .glo "passed", .glo "new_gates", .glo "apply_step", .glo "apply_steps", .glo "can_reach", .glo "same_gate", .glo "can_merge", .glo "first_pair", .glo "gathered", .glo "cancelling", .glo "merging", .glo "shrink"]
def fa2 : List He.Fa := [.glo "as_bits", .glo "parting", .glo "_law_draw", .glo "_law_take", .glo "_law_gate", .glo "_law_turned", .glo "_law_bits", .glo "_law_value", .glo "_law_map", .glo "_law_free", .glo "_law_ordered", .glo "_law_one", .glo "_law_passed", .glo "_law_is_gate", .glo "_law_behind", .glo "_law_split", .glo "_law_step", .glo "_law_rich", .glo "law", .glo "LENGTHS", .glo "USES"]
def fa3 : List He.Fa := [.free "len", .free "isinstance", .free "list", .free "tuple", .free "dict", .free "sorted", .free "any", .free "all", .free "range", .free "sum", .free "max", .free "int", .free "abs", .free "bool", .free "str"]
def faA : List He.Fa := fa1 ++ (fa2 ++ fa3)
def kvL : List (Str × He.Dv) := [("cancel", .int 2), ("pair", .int 3), ("exchange", .int 2), ("merge", .int 2), ("split", .int 3), ("pass", .int 2)]
def kvU : List (Str × He.Dv) := [("cancel", .int 2), ("pair", .int 0), ("exchange", .int 2), ("merge", .int 2), ("split", .int 1), ("pass", .int 2)]
def tabs1 : List He.Tab := [(fun K => He.ga K "LENGTHS", ["cancel", "pair", "exchange", "merge", "split", "pass"]), (fun K => He.ga K "USES", ["cancel", "pair", "exchange", "merge", "split", "pass"])]
def ex1 (K : PySem.W.Frag) : Bool := He.valsB K (He.ga K "LENGTHS") kvL && He.valsB K (He.ga K "USES") kvU
abbrev RowX : PySem.W.OpenRow := PySem.W.OpenLaw.row PySem.Challenge.rw_backrun_k96_whole_any_steps_on_circuits
abbrev hk1 : PySem.W.Hook := He.hookX 3 faA fn1 tabs1 [] ex1
def ob1 (s : PySem.W.SharedT) : He.AlX := He.obsX 3 faA fn1 tabs1 [] ex1 (HandSHeadRun.getT s)
theorem ob1_eq (s : PySem.W.SharedT) : ob1 s = hk1.obs s.abs := He.obsX_eq (HandSHeadRun.getT_eq s)
def loose1 : List Str := ["is_number", "is_gate", "wires_of", "run_circuit", "conflict", "exchanged", "merged", "split", "passed", "new_gates", "apply_step", "apply_steps", "can_reach", "same_gate", "can_merge", "first_pair", "gathered", "cancelling", "merging", "shrink"]
def loose2 : List Str := ["as_bits", "parting", "_law_draw", "_law_take", "_law_gate", "_law_turned", "_law_bits", "_law_value", "_law_map", "_law_free", "_law_ordered", "_law_one", "_law_passed", "_law_is_gate", "_law_behind", "_law_split", "_law_step", "_law_rich", "LENGTHS", "USES", "_law_circuit"]
def looseA : List Str := loose1 ++ loose2
theorem run1 (w : World) : HandSHeadRun.RunEq RowX (PySem.W.view RowX.prog [46]) hk1 ob1 3000 looseA w :=
  PySem.W.byRow2 "special-get-raises" (P := fun w => HandSHeadRun.RunEq RowX (PySem.W.view RowX.prog [46]) hk1 ob1 3000 looseA w) (fun w os => by kernel_rfl) (fun w os => by kernel_rfl) w
end Bk

set_option Elab.async false
set_option linter.all false
set_option maxRecDepth 100000
set_option maxHeartbeats 0
namespace Bk
open PySem PySem.Spec PyProof.Rows L2
theorem find_no {P : Params} {z : Str} : ∀ {es : List DictEntry} {ks : List Str}, es.map He.keyOf = He.keysIn P ks → (∀ k ∈ ks, k ≠ z) → es.find? (·.key.isStr z) = none ∧ es.any (·.refKey) = false
  | [], _, _, _ => ⟨rfl, rfl⟩
  | e :: r, [], h, _ => by cases h
  | e :: r, k :: ks, h, hz => by
    have h1 : He.keyOf e :: r.map He.keyOf = some (k, PyData.keyHash P k) :: He.keysIn P ks := h
    injection h1 with h2 h3
    obtain ⟨a1, a2⟩ := find_no h3 fun k m => hz k (List.mem_cons_of_mem _ m)
    unfold He.keyOf at h2
    split at h2
    · rename_i x t q
      have h4 := Option.some.inj h2
      obtain ⟨h5, h6⟩ := Prod.mk.inj h4
      have hx : x ≠ z := by rw [h5]; exact hz k List.mem_cons_self
      constructor
      · rw [List.find?_cons_of_neg ?_]
        · exact a1
        · rw [q]
          show ¬ (x == z) = true
          simpa using hx
      · rw [List.any_cons, a2]
        unfold DictEntry.refKey
        rw [q]
        rfl
    · cases h2
theorem tb_of {K : PySem.W.Frag} {w : World} {mg : Str → Option Value} {x : Str} {a : Addr} {f : Wd → Nat} {kvs : List (Str × He.Dv)} (hg : mg x = some (.ref a)) (hT : He.dicW K a = some (He.keysIn w.params ["cancel", "pair", "exchange", "merge", "split", "pass"])) (hv : He.valsB K a kvs = true)
    (hk : ∀ wd : Wd, (wd.name, He.Dv.int (f wd : Int)) ∈ kvs) : Tb w K mg x f := by
  obtain ⟨es, n, D⟩ := He.dicW_ok hT
  refine ⟨a, es, n, hg, D, fun z hz => ?_, fun wd => ?_⟩
  · have hk2 : es.toList.map He.keyOf = He.keysIn w.params ["cancel", "pair", "exchange", "merge", "split", "pass"] := by
      have e : He.dicW K a = (match decide (("dict" : String) = "dict") && ((#[] : Array (Option Value)).isEmpty && !(a == sysModules)) with
        | true => some (es.toList.map He.keyOf)
        | false => none) := by
        unfold He.dicW
        rw [D.at_]
        rfl
      rw [e, D.low] at hT
      exact Option.some.inj hT
    obtain ⟨h1, h2⟩ := find_no (z := z) hk2 fun k m => by
      have ne := fun wd => Ne.symm (wd_ne hz wd)
      simp only [List.mem_cons, List.not_mem_nil, or_false] at m
      rcases m with rfl | rfl | rfl | rfl | rfl | rfl
      · exact ne .cancel
      · exact ne .pair
      · exact ne .exchange
      · exact ne .merge
      · exact ne .split
      · exact ne .pass
    unfold PySem.W.nsIn
    rw [D.at_]
    show (match es.toList.find? (·.key.isStr z) with
      | some e => some (some e.val)
      | none => if es.toList.any (·.refKey) then none else some none) = some none
    rw [h1]
    show (if es.toList.any (·.refKey) then none else some none) = some none
    rw [h2]
    rfl
  · exact He.valsB_ok hv (hk wd)
theorem df_of {K : PySem.W.Frag} {h : Heap} {mg : Str → Option Value} (X : K.In h) (G : h.Ns mainGlobals mg) {x : Str} {st : Stmt} (F : ∃ fd, FunD K x x (defArgs st) (defBody st) (defScope st) [] [] (He.ga K x) fd) (hg : (He.Fa.glo x).ok K = true) : Df K mg x st := by
  obtain ⟨fd, F⟩ := F
  exact ⟨_, fd, F, He.glo_ok X G hg⟩
theorem facts {P : Program} {w : World} {K : PySem.W.Frag} {h : Heap} {mg : Str → Option Value} {f0 : Addr} (X : K.In h) (G : h.Ns mainGlobals mg) (cx : He.SaysX faA fn1 tabs1 [] ex1 w h K) (hfa : mg ("law" : Str) = some (.ref f0)) : ∃ fd : FuncData, (∀ (s : Shared) (v : Value), BindsTo s fd ⟨[v], []⟩ [("_law_script", v)]) ∧ ∀ base : Heap, K.In base → base.Ns mainGlobals mg → FnOk P w K mg base CX0 9 f0 fd ["_law_script"] (spLaw K) := by
  have c := cx.t.d
  have D_is_number : Df K mg "is_number" sis_number := df_of X G (c.def_ 0 (d := dis_number) rfl) (c.fact 0 (f := .glo "is_number") rfl)
  have D_is_gate : Df K mg "is_gate" sis_gate := df_of X G (c.def_ 1 (d := dis_gate) rfl) (c.fact 1 (f := .glo "is_gate") rfl)
  have D_wires_of : Df K mg "wires_of" swires_of := df_of X G (c.def_ 2 (d := dwires_of) rfl) (c.fact 2 (f := .glo "wires_of") rfl)
  have D_run_circuit : Df K mg "run_circuit" srun_circuit := df_of X G (c.def_ 3 (d := drun_circuit) rfl) (c.fact 3 (f := .glo "run_circuit") rfl)
  have D_conflict : Df K mg "conflict" sconflict := df_of X G (c.def_ 4 (d := dconflict) rfl) (c.fact 4 (f := .glo "conflict") rfl)
  have D_exchanged : Df K mg "exchanged" sexchanged := df_of X G (c.def_ 5 (d := dexchanged) rfl) (c.fact 5 (f := .glo "exchanged") rfl)
  have D_merged : Df K mg "merged" smerged := df_of X G (c.def_ 6 (d := dmerged) rfl) (c.fact 6 (f := .glo "merged") rfl)
  have D_split : Df K mg "split" ssplit := df_of X G (c.def_ 7 (d := dsplit) rfl) (c.fact 7 (f := .glo "split") rfl)
  have D_passed : Df K mg "passed" spassed := df_of X G (c.def_ 8 (d := dpassed) rfl) (c.fact 8 (f := .glo "passed") rfl)
  have D_new_gates : Df K mg "new_gates" snew_gates := df_of X G (c.def_ 9 (d := dnew_gates) rfl) (c.fact 9 (f := .glo "new_gates") rfl)
  have D_apply_step : Df K mg "apply_step" sapply_step := df_of X G (c.def_ 10 (d := dapply_step) rfl) (c.fact 10 (f := .glo "apply_step") rfl)
  have D_apply_steps : Df K mg "apply_steps" sapply_steps := df_of X G (c.def_ 11 (d := dapply_steps) rfl) (c.fact 11 (f := .glo "apply_steps") rfl)
  have D_can_reach : Df K mg "can_reach" scan_reach := df_of X G (c.def_ 12 (d := dcan_reach) rfl) (c.fact 12 (f := .glo "can_reach") rfl)
  have D_same_gate : Df K mg "same_gate" ssame_gate := df_of X G (c.def_ 13 (d := dsame_gate) rfl) (c.fact 13 (f := .glo "same_gate") rfl)
  have D_can_merge : Df K mg "can_merge" scan_merge := df_of X G (c.def_ 14 (d := dcan_merge) rfl) (c.fact 14 (f := .glo "can_merge") rfl)
  have D_first_pair : Df K mg "first_pair" sfirst_pair := df_of X G (c.def_ 15 (d := dfirst_pair) rfl) (c.fact 15 (f := .glo "first_pair") rfl)
  have D_gathered : Df K mg "gathered" sgathered := df_of X G (c.def_ 16 (d := dgathered) rfl) (c.fact 16 (f := .glo "gathered") rfl)
  have D_cancelling : Df K mg "cancelling" scancelling := df_of X G (c.def_ 17 (d := dcancelling) rfl) (c.fact 17 (f := .glo "cancelling") rfl)
  have D_merging : Df K mg "merging" smerging := df_of X G (c.def_ 18 (d := dmerging) rfl) (c.fact 18 (f := .glo "merging") rfl)
  have D_shrink : Df K mg "shrink" sshrink := df_of X G (c.def_ 19 (d := dshrink) rfl) (c.fact 19 (f := .glo "shrink") rfl)
  have D_as_bits : Df K mg "as_bits" sas_bits := df_of X G (c.def_ 20 (d := das_bits) rfl) (c.fact 20 (f := .glo "as_bits") rfl)
  have D_parting : Df K mg "parting" sparting := df_of X G (c.def_ 21 (d := dparting) rfl) (c.fact 21 (f := .glo "parting") rfl)
  have D_L_draw : Df K mg "_law_draw" sL_draw := df_of X G (c.def_ 22 (d := dL_draw) rfl) (c.fact 22 (f := .glo "_law_draw") rfl)
  have D_L_take : Df K mg "_law_take" sL_take := df_of X G (c.def_ 23 (d := dL_take) rfl) (c.fact 23 (f := .glo "_law_take") rfl)
  have D_L_gate : Df K mg "_law_gate" sL_gate := df_of X G (c.def_ 24 (d := dL_gate) rfl) (c.fact 24 (f := .glo "_law_gate") rfl)
  have D_L_turned : Df K mg "_law_turned" sL_turned := df_of X G (c.def_ 25 (d := dL_turned) rfl) (c.fact 25 (f := .glo "_law_turned") rfl)
  have D_L_bits : Df K mg "_law_bits" sL_bits := df_of X G (c.def_ 26 (d := dL_bits) rfl) (c.fact 26 (f := .glo "_law_bits") rfl)
  have D_L_value : Df K mg "_law_value" sL_value := df_of X G (c.def_ 27 (d := dL_value) rfl) (c.fact 27 (f := .glo "_law_value") rfl)
  have D_L_map : Df K mg "_law_map" sL_map := df_of X G (c.def_ 28 (d := dL_map) rfl) (c.fact 28 (f := .glo "_law_map") rfl)
  have D_L_free : Df K mg "_law_free" sL_free := df_of X G (c.def_ 29 (d := dL_free) rfl) (c.fact 29 (f := .glo "_law_free") rfl)
  have D_L_ordered : Df K mg "_law_ordered" sL_ordered := df_of X G (c.def_ 30 (d := dL_ordered) rfl) (c.fact 30 (f := .glo "_law_ordered") rfl)
  have D_L_one : Df K mg "_law_one" sL_one := df_of X G (c.def_ 31 (d := dL_one) rfl) (c.fact 31 (f := .glo "_law_one") rfl)
  have D_L_passed : Df K mg "_law_passed" sL_passed := df_of X G (c.def_ 32 (d := dL_passed) rfl) (c.fact 32 (f := .glo "_law_passed") rfl)
  have D_L_is_gate : Df K mg "_law_is_gate" sL_is_gate := df_of X G (c.def_ 33 (d := dL_is_gate) rfl) (c.fact 33 (f := .glo "_law_is_gate") rfl)
  have D_L_behind : Df K mg "_law_behind" sL_behind := df_of X G (c.def_ 34 (d := dL_behind) rfl) (c.fact 34 (f := .glo "_law_behind") rfl)
  have D_L_split : Df K mg "_law_split" sL_split := df_of X G (c.def_ 35 (d := dL_split) rfl) (c.fact 35 (f := .glo "_law_split") rfl)
  have D_L_step : Df K mg "_law_step" sL_step := df_of X G (c.def_ 36 (d := dL_step) rfl) (c.fact 36 (f := .glo "_law_step") rfl)
  have D_L_rich : Df K mg "_law_rich" sL_rich := df_of X G (c.def_ 37 (d := dL_rich) rfl) (c.fact 37 (f := .glo "_law_rich") rfl)
  have D_Law : Df K mg "law" sLaw := df_of X G (c.def_ 38 (d := dLaw) rfl) (c.fact 38 (f := .glo "law") rfl)
  have T : Fx mg := ⟨He.free_ok X G (c.fact 41 (f := .free "len") rfl), He.free_ok X G (c.fact 42 (f := .free "isinstance") rfl), He.free_ok X G (c.fact 43 (f := .free "list") rfl), He.free_ok X G (c.fact 44 (f := .free "tuple") rfl), He.free_ok X G (c.fact 45 (f := .free "dict") rfl), He.free_ok X G (c.fact 46 (f := .free "sorted") rfl), He.free_ok X G (c.fact 47 (f := .free "any") rfl), He.free_ok X G (c.fact 48 (f := .free "all") rfl), He.free_ok X G (c.fact 49 (f := .free "range") rfl), He.free_ok X G (c.fact 50 (f := .free "sum") rfl), He.free_ok X G (c.fact 51 (f := .free "max") rfl), He.free_ok X G (c.fact 52 (f := .free "int") rfl), He.free_ok X G (c.fact 53 (f := .free "abs") rfl), He.free_ok X G (c.fact 54 (f := .free "bool") rfl), He.free_ok X G (c.fact 55 (f := .free "str") rfl)⟩
  have hm := cx.more
  have hm' : He.valsB K (He.ga K "LENGTHS") kvL = true ∧ He.valsB K (He.ga K "USES") kvU = true := by
    have : (He.valsB K (He.ga K "LENGTHS") kvL && He.valsB K (He.ga K "USES") kvU) = true := hm
    exact Bool.and_eq_true_iff.mp this
  have eT : tabs1.map (fun t => He.dicW K (t.1 K)) = tabs1.map fun t => some (He.keysIn w.params t.2) := congrArg (fun z : He.AlT => z.2) cx.t
  injection eT with eT1 eT
  injection eT with eT2 _
  have TL : Tb w K mg "LENGTHS" Wd.len := tb_of (kvs := kvL) (He.glo_ok X G (c.fact 39 (f := .glo "LENGTHS") rfl)) eT1 hm'.1 fun wd => by
    cases wd with
    | cancel => exact List.mem_of_getElem? (show kvL[0]? = some _ from rfl)
    | pair => exact List.mem_of_getElem? (show kvL[1]? = some _ from rfl)
    | exchange => exact List.mem_of_getElem? (show kvL[2]? = some _ from rfl)
    | merge => exact List.mem_of_getElem? (show kvL[3]? = some _ from rfl)
    | split => exact List.mem_of_getElem? (show kvL[4]? = some _ from rfl)
    | pass => exact List.mem_of_getElem? (show kvL[5]? = some _ from rfl)
  have TU : Tb w K mg "USES" Wd.use := tb_of (kvs := kvU) (He.glo_ok X G (c.fact 40 (f := .glo "USES") rfl)) eT2 hm'.2 fun wd => by
    cases wd with
    | cancel => exact List.mem_of_getElem? (show kvU[0]? = some _ from rfl)
    | pair => exact List.mem_of_getElem? (show kvU[1]? = some _ from rfl)
    | exchange => exact List.mem_of_getElem? (show kvU[2]? = some _ from rfl)
    | merge => exact List.mem_of_getElem? (show kvU[3]? = some _ from rfl)
    | split => exact List.mem_of_getElem? (show kvU[4]? = some _ from rfl)
    | pass => exact List.mem_of_getElem? (show kvU[5]? = some _ from rfl)
  obtain ⟨fL, fd, F0, gL⟩ := D_Law.ex
  rw [hfa] at gL
  cases gL
  have b := FunD.bindsA (ps := ["_law_script"]) F0 fun _ _ _ _ _ _ us hl => match us, hl with | [_], _ => rfl
  refine ⟨fd, fun s v => b s [v] rfl, fun base _ _ => ?_⟩
  have c_is_number : Cl P w K mg base 1 "is_number" _ := ok_is_number T D_is_number
  have c_wires_of : Cl P w K mg base 1 "wires_of" _ := ok_wires_of T D_wires_of
  have c_is_gate : Cl P w K mg base 2 "is_gate" _ := ok_is_gate T D_is_gate c_is_number
  have c_run_circuit : Cl P w K mg base 1 "run_circuit" _ := ok_run_circuit T D_run_circuit
  have c_conflict : Cl P w K mg base 1 "conflict" _ := ok_conflict T D_conflict
  have c_exchanged : Cl P w K mg base 2 "exchanged" _ := ok_exchanged T D_exchanged c_wires_of c_conflict
  have c_merged : Cl P w K mg base 1 "merged" _ := ok_merged T D_merged
  have c_split : Cl P w K mg base 2 "split" _ := ok_split T D_split c_wires_of
  have c_passed : Cl P w K mg base 2 "passed" _ := ok_passed T D_passed c_wires_of c_conflict
  have c_new_gates : Cl P w K mg base 3 "new_gates" _ := ok_new_gates T D_new_gates c_is_number c_is_gate c_wires_of c_exchanged c_merged c_split c_passed
  have c_apply_step : Cl P w K mg base 4 "apply_step" _ := ok_apply_step T TL TU D_apply_step c_is_number c_new_gates
  have c_apply_steps : Cl P w K mg base 5 "apply_steps" _ := ok_apply_steps T D_apply_steps c_apply_step
  have c_can_reach : Cl P w K mg base 3 "can_reach" _ := ok_can_reach T D_can_reach c_exchanged
  have c_same : Cl P w K mg base 2 "same_gate" _ := ok_same_gate T D_same_gate
  have c_can : Cl P w K mg base 2 "can_merge" _ := ok_can_merge T D_can_merge c_merged
  have c_first_pair : Cl P w K mg base 4 "first_pair" _ := ok_first_pair T D_first_pair c_can_reach c_same c_can
  have c_gathered : Cl P w K mg base 6 "gathered" _ := ok_gathered T D_gathered c_first_pair c_apply_steps
  have c_canc : Cl P w K mg base 7 "cancelling" _ := ok_cancelling T D_cancelling D_same_gate c_gathered
  have c_merg : Cl P w K mg base 7 "merging" _ := ok_merging T D_merging D_same_gate D_can_merge c_gathered
  have c_shrink : Cl P w K mg base 8 "shrink" _ := ok_shrink T D_shrink D_cancelling D_merging c_apply_steps c_canc c_merg
  have c_as_bits : Cl P w K mg base 1 "as_bits" _ := ok_as_bits T D_as_bits
  have c_parting : Cl P w K mg base 2 "parting" _ := ok_parting T D_parting c_as_bits c_run_circuit
  have c_L_turned : Cl P w K mg base 1 "_law_turned" _ := ok_L_turned T D_L_turned
  have c_L_bits : Cl P w K mg base 1 "_law_bits" _ := ok_L_bits T D_L_bits
  have c_L_value : Cl P w K mg base 1 "_law_value" _ := ok_value T D_L_value
  have c_L_map : Cl P w K mg base 2 "_law_map" _ := ok_map T D_L_map c_L_value c_L_turned c_L_bits
  have c_L_ordered : Cl P w K mg base 1 "_law_ordered" _ := ok_L_ordered T D_L_ordered
  have c_L_free : Cl P w K mg base 1 "_law_free" _ := ok_free T D_L_free
  have c_L_one : Cl P w K mg base 2 "_law_one" _ := ok_L_one T D_L_one c_L_ordered
  have c_L_passed : Cl P w K mg base 2 "_law_passed" _ := ok_L_passed T D_L_passed c_L_ordered
  have c_L_is_gate : Cl P w K mg base 1 "_law_is_gate" _ := ok_L_is_gate T D_L_is_gate
  have c_L_split : Cl P w K mg base 1 "_law_split" _ := ok_L_split T D_L_split
  have c_L_behind : Cl P w K mg base 3 "_law_behind" _ := ok_behind T D_L_behind c_L_is_gate c_L_free c_L_one c_L_split c_L_passed
  have c_L_take : Cl P w K mg base 1 "_law_take" _ := ok_take T D_L_take
  have c_L_gate : Cl P w K mg base 2 "_law_gate" _ := ok_L_gate T D_L_gate c_L_take
  have c_L_step : Cl P w K mg base 3 "_law_step" _ := ok_L_step T D_L_step c_L_take c_L_gate
  have c_L_draw : Cl P w K mg base 1 "_law_draw" _ := ok_draw T D_L_draw
  have c_L_rich : Cl P w K mg base 3 "_law_rich" _ := ok_L_rich T D_L_rich c_L_take c_L_gate c_L_ordered
  exact ok_law T F0 c_L_draw c_L_take c_L_rich c_L_gate c_L_step c_apply_steps c_L_behind c_parting c_L_map c_shrink
end Bk
open PySem PySem.W PySem.Calls PyProof.Rows
theorem PySem.Challenge.cw_backrun_k96_whole_any_steps_on_circuits_holds : PySem.Challenge.rw_backrun_k96_whole_any_steps_on_circuits.Holds := by
  w_on; o_law
  refine HandSHeadRun.head_any (r := OpenLaw.row PySem.Challenge.rw_backrun_k96_whole_any_steps_on_circuits) (q := view (OpenLaw.row PySem.Challenge.rw_backrun_k96_whole_any_steps_on_circuits).prog [46]) (H := Bk.hk1) (ob := Bk.ob1) (M := 3000) (loose := Bk.looseA)
    (d := HandSHeadRun.topDef (OpenLaw.row PySem.Challenge.rw_backrun_k96_whole_any_steps_on_circuits).prog 46) (kwd := []) Bk.ob1_eq
    (by kernel_rfl) (fun s => by kernel_rfl) Bk.run1 (by kernel_rfl) (by kernel_rfl) (by kernel_rfl) (by rfl) (by first | assumption | decide +kernel) (by decide +kernel) ⟨rfl, rfl, rfl, rfl, rfl, by decide +kernel⟩ ?hw ?hc
  case hw => w_witness2
  case hc =>
    refine L2.walk_ofE (l := PySem.Challenge.rw_backrun_k96_whole_any_steps_on_circuits) (n := 63) (k := 9) (x := "_law_script") (CX := L2.CX0) rfl (by decide) (by kernel_rfl) ⟨rfl, by decide, by decide⟩ ?F (fun _ _ _ _ z => z)
    intro w mg fa h Y G hmg0
    obtain ⟨K, KX, c⟩ := Y
    have hmg : mg ("law" : PySem.Str) = some (.ref fa) := by
      have e : (HandSHeadRun.topDef (OpenLaw.row PySem.Challenge.rw_backrun_k96_whole_any_steps_on_circuits).prog 46).name = ("law" : PySem.Str) := by kernel_rfl
      rw [← e]
      exact hmg0
    obtain ⟨fd, hb, hF⟩ := Bk.facts (P := (PySem.Challenge.rw_backrun_k96_whole_any_steps_on_circuits).prog) (w := w) KX G c hmg
    exact ⟨K, fd, Bk.spLaw K, KX, hb, fun H a ns hl _ hS => ⟨rfl, a, ns, rfl, hS, Nat.le_trans hl (by decide), fun _ => rfl⟩, hF⟩
