import PyProof.Rows.All
import HandS.ForMost
import HandS.Flow
import KE.SortData
import HandS.TupLe
import HandS.SortOrd
import HandS.SortRule
import PyProof.WalksMore
import PyProof.SumWalkG
import PyProof.Rows.SumGenD
import HandS.Conv
import HandS.TupAny
import HandS.Dict
import HandS.Iter
import KE.KDictPairs
import HandS.Call
import HandS.Codes
import HandS.ForExc
import HandS.WordsExc
import HandS.Deep
import KE.KDictKeyed
import KE.KDictDisplayH
import KE.KDictWalk
import KE.GoesDict
import HandS.IsInst
import HandS.WideBits
import KE.KeyNested
import HandS.CallSlots
import HandS.Wide
import HandS.More
import HandS.DictComp
import KE.GoesEnum
import HandS.Zip
import HandS.Style
import HandS.Defaults
import HandS.ExcInit
import HandS.ExcField
import HandS.ExcIs
import KE.KExcIs
import PySem.Challenge.RW_weavewrit_k24_walk_order_and_bound
set_option Elab.async false
set_option linter.all false
set_option maxRecDepth 100000
/-! MPSort: sorted(..), x < y of data, sum of a tuple, as rules of the layer. -/
namespace MP
open PySem PySem.Spec PyProof.Rows L2

/-! ### < of data that are alike -/
def rLtD (K : PySem.W.Frag) : R2 := fun x y H Q => ∃ d e, Dp K H x d ∧ Dp K H y e ∧ PySem.W.alike d e = true ∧ d ≠ .none ∧ d.depth ≤ 60 ∧ Q (.bl (PySem.W.dataLt d e)) H
theorem op_ltD {X : Cx} (hu : X.A.units + 65 < cLine) : OpR X (compareOp .Lt) (rLtD X.K) := by
  intro pins s σ H x y v u Q I rx ry h
  obtain ⟨d, e, dx, dy, al, ne, dd, q⟩ := h
  obtain ⟨as, ra⟩ := Dp.reads I d x v dx rx
  obtain ⟨bs, rb⟩ := Dp.reads I e y u dy ry
  have R := PySem.W.rcLt_alike d e X.A s v u as bs ra rb al ne (by have := Nat.min_le_left d.depth e.depth; omega)
  have z : wpAny (model X.prog X.w) X.A (compareOp .Lt v u) (EP X pins σ Q) X.xe s := R X.prog X.w X.xe (EP X pins σ Q) ⟨.bl _, H, I, rfl, q⟩
  exact z

/-! ### sorted(xs) of data that are alike -/
def rSortedD (K : PySem.W.Frag) : List V → Hp → VK → Prop := fun vs H Q => ∃ (a : Addr) (bs : List (V × PyData)), vs = [V.ref a] ∧ SqL K H a (bs.map Prod.fst) ∧ (∀ b ∈ bs, Dp K H b.1 b.2) ∧ PySem.W.AllAlike (bs.map Prod.snd) ∧ PySem.W.Sortable (bs.map Prod.snd) ∧ (∀ b ∈ bs, b.2.depth ≤ 60) ∧
  ∀ p, H p = none → Q (.ref p) (upd H p (.lst ((bs.mergeSort (PySem.W.dataLe false Prod.snd)).map Prod.fst)))
theorem each_of : ∀ {bs : List (V × PyData)} {us : List Value}, Vals (bs.map Prod.fst) us → PySem.W.EachIs (fun (u : Value) (b : V × PyData) => RelV b.1 u) us bs
  | [], _, h => by cases h; exact .nil
  | b :: bs, _, h => by
    cases h with
    | cons r t => exact .cons r (each_of t)
theorem of_each : ∀ {bs : List (V × PyData)} {us : List Value}, PySem.W.EachIs (fun (u : Value) (b : V × PyData) => RelV b.1 u) us bs → Vals (bs.map Prod.fst) us
  | _, _, .nil => .nil
  | _, _, .cons r t => .cons r (of_each t)
theorem each_reads {X : Cx} {pins : List (Addr × Obj)} {σ : L2.St} {H : Hp} {s : Shared} (I : Inv X pins σ H s) : ∀ {bs : List (V × PyData)} {us : List Value}, Vals (bs.map Prod.fst) us → (∀ b ∈ bs, Dp X.K H b.1 b.2) → PySem.W.EachIs (fun u b => ∃ as, Reads s.heap u (Prod.snd b) as) us bs
  | [], _, h, _ => by cases h; exact .nil
  | b :: bs, _, h, hd => by
    cases h with
    | cons r t => exact .cons (Dp.reads I b.2 b.1 _ (hd b List.mem_cons_self) r) (each_reads I t fun x hx => hd x (List.mem_cons_of_mem _ hx))
theorem cr_sortedD {X : Cx} (hu : X.A.units + 65 < cLine) : CallR X (.builtin "sorted") (rSortedD X.K) := by
  intro pins s σ H vs us Q I r h
  obtain ⟨a, bs, rfl, hs, hd, al, so, dd, q⟩ := h
  obtain ⟨its, rv, hl, hz⟩ := I.list hs
  rw [Vals.ref1 r]
  refine PySem.W.sorted_data (R := fun u b => RelV b.1 u) (bs := bs) (enc := Prod.snd) hl.isList (each_of rv) (each_reads I rv hd) al so (by rw [List.length_map] at hz; exact hz) (fun b hb => by have := dd b hb; omega) fun out ho eo => ?_
  obtain ⟨ep, he'⟩ := PyProof.Rows.sortedAll_at s.heap its out.toArray
  have hlen : ((bs.mergeSort (PySem.W.dataLe false Prod.snd)).map Prod.fst).length ≤ sizeLine := by
    rw [List.length_map, List.length_mergeSort]
    rw [List.length_map] at hz
    exact hz
  exact ⟨.ref _, upd H (s.heap.objs.size + 1) (.lst ((bs.mergeSort (PySem.W.dataLe false Prod.snd)).map Prod.fst)), I.laid (t' := s.toks) (fun _ _ => PyProof.Rows.sortedAll_old) (Nat.le_succ _) ⟨hlen, out, ep, of_each eo, he'⟩, rfl, q _ (I.hok.fresh (Nat.le_succ _))⟩

/-! ### sorted(xs) of empty tuples -/
section
open SrtO
variable {prog : Program} {w : World} {A : Around} {E : Value → Shared → Prop} {s : Shared}
def Nul (h : Heap) (v : Value) : Prop := ∃ t, v = .ref t ∧ IsTup h t #[]
theorem Nul.keeps {h h' : Heap} {v : Value} (x : Nul h v) (k : ∀ b o, h.get? b = some o → o.cls = .type "tuple" → h'.get? b = some o) : Nul h' v := by
  obtain ⟨t, e, o, ho, hc, hd⟩ := x
  exact ⟨t, e, o, k _ _ ho hc, hc, hd⟩
theorem Nul.typ {v : Value} (x : Nul s.heap v) : PySem.W.Looks (model prog w) s.heap (typeOf v) (.type "tuple") := by
  obtain ⟨t, rfl, o, ho, hc, hd⟩ := x
  have h : PySem.W.Looks (model prog w) s.heap (typeOf (.ref t)) o.cls := (PySem.W.Looks.ld ho).andThen .now
  rw [hc] at h
  exact h
theorem null_kind {vs : List Value} {Q : SortKind → Shared → Prop} (h2 : 2 ≤ vs.length) (hx : ∀ v ∈ vs, Nul s.heap v) (h : Q oneType' s) : wpAny (model prog w) A (keyKind' vs.toArray) Q E s := by
  obtain ⟨v₁, v₂, rest, rfl⟩ : ∃ v₁ v₂ rest, vs = v₁ :: v₂ :: rest := by
    match vs, h2 with
    | [], h2 => simp at h2
    | [_], h2 => simp at h2
    | v₁ :: v₂ :: rest, _ => exact ⟨v₁, v₂, rest, rfl⟩
  rw [keyKind'_eq, List.mapM_toArray, map_eq_pure_bind]
  refine wpAny_bind (wpAny_bind (PySem.W.kas_mapM (r := none) _ (fun v hv Q' hq => ?_) (wpAny_pure ?_)))
  · rw [PySem.W.kas_first_eq]
    refine wpAny_bind ((hx v hv).typ.here ?_)
    rw [if_neg (by decide)]
    obtain ⟨t, rfl, o, ho, hc, n, hd⟩ := hx v hv
    exact wpAny_bind (listItems_at ho hd (wpAny_pure hq))
  · rw [if_neg (by simp), if_neg (by simp)]
    rw [oneTypeOnly'_eq, List.mapM_toArray, map_eq_pure_bind]
    refine wpAny_bind (wpAny_bind (wpAny_bind (PySem.W.kas_mapM (r := Value.type "tuple") _ (fun v hv Q' hq => (hx v hv).typ.here hq) (wpAny_pure ?_))))
    have hall : ((List.map (fun _ => Value.type "tuple") (v₁ :: v₂ :: rest)).toArray.all fun x => x == Value.type "tuple") = true := by
      simp only [List.all_toArray, List.all_map, List.all_eq_true]
      intro _ _
      rfl
    have h0 : (List.map (fun _ => Value.type "tuple") (v₁ :: v₂ :: rest)).toArray[0]? = some (Value.type "tuple") := by simp
    rw [h0]
    simp only [hall, if_true]
    exact wpAny_pure (wpAny_pure h)
theorem null_lt {u v : Value} {Q : Bool → Shared → Prop} (hu : A.units < cLine) (hx : Nul s.heap u) (hy : Nul s.heap v) (q : Q false s) : wpAny (model prog w) A (oneLt' true u v) Q E s := by
  obtain ⟨t, rfl, ⟨cls, dd, data, sl⟩, ho, hc, n, hd⟩ := hx
  obtain ⟨t2, rfl, ⟨cls2, dd2, data2, sl2⟩, ho2, hc2, n2, hd2⟩ := hy
  simp only at hc hd hc2 hd2
  subst hc hd hc2 hd2
  rw [oneLt'_eq]
  simp only [if_true]
  refine wpAny_bind (wpAny_cRoomFor hu ?_)
  refine wpAny_bind (wpAny_callSpecialIfBound?_slot (T := "tuple") ⟨_, ho, rfl⟩ F.slot_tuple_lt (call_meets F.slot_tuple_lt ⟨_, ho, rfl⟩ F.entry_tuple_lt (F.args_tuple_lt_2 _ _)
    (Ob.tuple_ltAt t t2 #[] #[] n n2 dd dd2 sl sl2 (fun _ => true) (fun _ => false)) ⟨ho, ho2, fun j h1 _ => absurd h1 (by simp), fun j h1 _ _ => absurd h1 (by simp), ?_⟩))
  exact wpAny_truthy_bool q
theorem null_swo : Swo fun _ _ : Value => false := ⟨fun _ _ _ => rfl, fun _ _ _ _ _ => rfl⟩
theorem null_same {out vs : List Value} (h : Stb (fun _ _ : Value => false) out vs) : out = vs := SrtO.stb_uniq null_swo (srtd_eq fun _ _ _ _ => rfl) (srtd_eq fun _ _ _ _ => rfl) h
theorem null_sortable {a : Addr} {vs : List Value} (hu : A.units < cLine) (h2 : 2 ≤ vs.length) (hx : ∀ v ∈ vs, Nul s.heap v) (ha : ∀ o, s.heap.get? a = some o → o.cls ≠ .type "tuple") : SortableO prog w A s a vs fun _ _ => false := by
  intro h' keep
  have hx' : ∀ v ∈ vs, Nul h' v := fun v hm => (hx v hm).keeps fun b o e c => keep b o (fun z => by subst z; exact ha o e c) e
  refine ⟨oneType', fun Q E hq => null_kind h2 hx' hq, ?_⟩
  intro p q hm hm'
  show wpAny (model prog w) A (keyLt' oneType' p.1 q.1) (fun r s' => s' = _ ∧ r = false) (fun _ _ => False) _
  rw [keyLt'_oneType]
  exact null_lt (s := { s with heap := h' }) hu (hx' _ hm) (hx' _ hm') ⟨rfl, rfl⟩
end
def rSortedE (K : PySem.W.Frag) : List V → Hp → VK → Prop := fun vs H Q => ∃ (a : Addr) (xs : List V), vs = [V.ref a] ∧ SqL K H a xs ∧ (∀ x ∈ xs, ∃ t, x = .ref t ∧ SqT K H t []) ∧ ∀ p, H p = none → Q (.ref p) (upd H p (.lst xs))
theorem cr_sortedE {X : Cx} (hu : X.A.units + 65 < cLine) : CallR X (.builtin "sorted") (rSortedE X.K) := by
  intro pins s σ H vs us Q I r h
  obtain ⟨a, xs, rfl, hs, hx, q⟩ := h
  obtain ⟨its, rv, hl, hz⟩ := I.list hs
  rw [Vals.ref1 r]
  have e := refs_back rv fun x m => by
    obtain ⟨t, e, _⟩ := hx x m
    exact ⟨t, e⟩
  have hn : ∀ v ∈ its, Nul s.heap v := fun v hv => by
    obtain ⟨t, rfl⟩ := e.2 v hv
    have hm : V.ref t ∈ xs := by rw [e.1]; exact List.mem_map.mpr ⟨_, hv, rfl⟩
    obtain ⟨t', e', ht⟩ := hx _ hm
    cases e'
    obtain ⟨is2, r2, p2, _⟩ := I.tuple ht
    cases r2
    exact ⟨t, rfl, p2⟩
  have hlen : its.length ≤ sizeLine := by rw [← rv.length]; exact hz
  refine SrtO.sorted_ord null_swo hl.isList hlen (fun h2 h₁ a' h₃ h₄ => ?_) fun out h1 h2 => ?_
  · refine null_sortable (s := { s with heap := h₁ }) (by rw [Around.in1_units, Around.in1_units]; omega) h2 (fun v hv => (hn v hv).keeps fun b o e _ => (h₄ b o e).2) fun o ho => ?_
    rw [h₃] at ho
    rw [← Option.some.inj ho]
    intro z
    have z' : Value.type "list" = Value.type "tuple" := z
    exact absurd z' (by decide)
  · obtain rfl := null_same h2
    obtain ⟨ep, he'⟩ := PyProof.Rows.sortedAll_at s.heap out out.toArray
    exact ⟨.ref _, upd H (s.heap.objs.size + 1) (.lst xs), I.laid (t' := s.toks) (fun _ _ => PyProof.Rows.sortedAll_old) (Nat.le_succ _) ⟨hz, out, ep, rv, he'⟩, rfl, q _ (I.hok.fresh (Nat.le_succ _))⟩

/-! ### sum of a tuple of ints -/
def rSumT (K : PySem.W.Frag) : List V → Hp → VK → Prop := fun vs H Q => ∃ (a : Addr) (ns : List Int), vs = [V.ref a] ∧ SqT K H a (ns.map V.int) ∧ Q (.int ns.sum) H
theorem cr_sumT {X : Cx} (hc : X.calm = true) : CallR X (.builtin "sum") (rSumT X.K) := by
  intro pins s σ H vs us Q I r h
  obtain ⟨a, ns, rfl, hs, q⟩ := h
  obtain ⟨its, rv, p1, _⟩ := I.tuple hs
  rw [Vals.ref1 r]
  have hi : IntsAre its ns := Vals.ints rv
  have hlt : a < s.heap.objs.size := by obtain ⟨_, e, _⟩ := p1; exact Heap.lt_size e
  have sz : its.toArray.size = ns.length := by rw [List.size_toArray]; exact hi.length
  refine call_sum_walkG (wpAny_pyIter_tuple p1 ?_)
  refine ⟨s.heap.objs.size, _, _, _, _, _, fun i => ns.getD i 0, rfl, Walks.tuple (A := X.A.in1) (I.ok.hd hc) _ a (Nat.ne_of_lt hlt) its.toArray, ⟨⟨_, Heap.get?_push_size _ rfl, rfl, rfl⟩, p1.push _⟩, fun b hb => ?_, fun i v e => ?_, fun h' tk t' hk => ?_⟩
  · show b < (s.heap.push _).objs.size
    rw [Heap.size_push]
    rcases List.mem_cons.mp hb with rfl | hb
    · exact Nat.lt_succ_self _
    · rcases List.mem_cons.mp hb with rfl | hb
      · exact Nat.lt_succ_of_lt hlt
      · cases hb
  · obtain ⟨h1, rfl⟩ := Array.getElem?_eq_some_iff.mp e
    exact PyProof.Rows.IntsAre.int_at hi _ _ (by
      have h2 : i < its.length := by simpa using h1
      rw [List.getElem?_eq_getElem h2]
      simp)
  · have e : preSum (fun i => ns.getD i 0) its.toArray.size = ns.sum := by
      rw [PyProof.Rows.preSum_getD, sz, List.take_of_length_le (Nat.le_refl _)]
    rw [e]
    refine ⟨.int _, H, I.kept (t' := tk) (fun b o e => ?_), ⟨_, rfl⟩, q⟩
    refine hk b o (fun hm => ?_) (Heap.get?_push_of_some _ e)
    rcases List.mem_cons.mp hm with e1 | hm
    · exact absurd (e1 ▸ Heap.lt_size e) (Nat.lt_irrefl _)
    · cases hm
end MP
/-! MPTup: tuples that are known to have no dict of their own; so dict(a tuple of pairs), as rules of the layer. -/
namespace MP
open PySem PySem.Spec PyProof.Rows L2

/-- a tuple without a dict -/
def SqN (K : PySem.W.Frag) (H : Hp) (a : Addr) (xs : List V) : Prop :=
  (∃ o : Obj, H a = some (.frz o (.tup xs)) ∧ o.dict = none) ∨ ∃ (o : Obj) (its : Array Value) (n : Nat), K.lookup a = some o ∧ o.cls = .type "tuple" ∧ o.dict = none ∧ o.data = .seq its n ∧ its.size ≤ sizeLine ∧ Vals xs its.toList
theorem SqN.t {K : PySem.W.Frag} {H : Hp} {a : Addr} {xs : List V} (h : SqN K H a xs) : SqT K H a xs := by
  rcases h with ⟨o, h, _⟩ | ⟨o, its, n, h1, h2, _, h3⟩
  · exact .inl (.inr ⟨o, h⟩)
  · exact .inr ⟨o, its, n, h1, h2, h3⟩
/-- where a new tuple is laid -/
abbrev LayT (H : Hp) (Q : VK) (xs : List V) : Prop := ∀ (p : Addr) (o : Obj), H p = none → o.dict = none → Q (.ref p) (upd H p (.frz o (.tup xs)))
theorem laid_frz {X : Cx} {pins : List (Addr × Obj)} {σ : L2.St} {H : Hp} {s : Shared} {Q : VK} {xs : List V} {its : Array Value} (I : Inv X pins σ H s) (r : Vals xs its.toList) (hz : xs.length ≤ sizeLine) (q : LayT H Q xs) : EP X pins σ Q (.ref s.heap.objs.size) { s with heap := s.heap.push { cls := .type "tuple", data := .seq its } } := by
  refine ⟨.ref s.heap.objs.size, _, I.laid (a := s.heap.objs.size) (o := .frz { cls := .type "tuple", data := .seq its } (.tup xs)) (t' := s.toks) (fun b u e => Heap.get?_push_of_some _ e) (Nat.le_refl _) ⟨Heap.get?_push_size _ rfl, hz, its.toList, r, ?_⟩, rfl, q _ _ (I.hok.fresh (Nat.le_refl _)) rfl⟩
  rw [Array.toArray_toList]
  exact ⟨_, Heap.get?_push_size _ rfl, rfl, _, rfl⟩
section
variable {X : Cx} {es : List Expr} {t : TA} {pos : Pos}
def tTupN (t : TA) : TE := fun σ H Q => t σ H fun xs H1 => xs.length ≤ sizeLine ∧ LayT H1 Q xs
theorem pe_tupN {k : Nat} (h : PA X es t) : PE X (.Tuple es k pos) (tTupN t) := by
  refine ⟨fun pins s σ H Q I hq => ?_⟩
  exact wpAny_Tuple_spliced (thn (h.run pos pins s σ H _ I hq) fun us s1 ⟨xs, H1, I1, r, z, q⟩ => ⟨by rw [← r.length]; exact z, laid_frz I1 (by simpa using r) z q⟩)
def rTupleN (K : PySem.W.Frag) : List V → Hp → VK → Prop := fun xs H Q => ∃ p ys, xs = [.ref p] ∧ ((SqL K H p ys ∧ LayT H Q ys) ∨ (SqT K H p ys ∧ Q (.ref p) H))
theorem cr_tupleN : CallR X (.type "tuple") (rTupleN X.K) := by
  intro pins s σ H xs us Q I r h
  obtain ⟨p, ys, rfl, h⟩ := h
  obtain ⟨u, rfl, rx⟩ := vals1 r
  cases rx
  rcases h with ⟨hq, q⟩ | ⟨hq, q⟩
  · obtain ⟨its, r', pl, hz⟩ := I.list hq
    have hlen := r'.length
    refine call_tuple_list pl.isList (fun h' kp => ?_) (by simp only [List.size_toArray] <;> omega)
    have I1 : Inv X pins σ H { s with heap := h' } := I.kept (t' := s.toks) kp
    exact laid_frz (its := its.toArray) I1 (by simpa using r') hz q
  · obtain ⟨its, r', pl, hz⟩ := I.tuple hq
    exact call_tuple_same pl ⟨.ref p, H, I, rfl, q⟩
/-- t + u -/
def rCatN (K : PySem.W.Frag) : R2 := fun x y H Q => ∃ a b xs ys, x = .ref a ∧ y = .ref b ∧ SqT K H a xs ∧ SqT K H b ys ∧ xs.length + ys.length ≤ sizeLine ∧
  (xs = [] → Q (.ref b) H) ∧ (xs ≠ [] → ys = [] → Q (.ref a) H) ∧ (xs ≠ [] → ys ≠ [] → LayT H Q (xs ++ ys))
theorem op_catN : OpR X (binaryOp .Add) (rCatN X.K) := by
  intro pins s σ H x y v u Q I rx ry h
  obtain ⟨a, b, xs, ys, rfl, rfl, ha, hb, hz, q0, q1, q2⟩ := h
  cases rx
  cases ry
  obtain ⟨its, r1, p1, _⟩ := I.tuple ha
  obtain ⟨its2, r2, p2, _⟩ := I.tuple hb
  by_cases hx : xs = []
  · subst hx
    cases r1
    exact cat_tup0 p1 p2 ⟨.ref b, H, I, rfl, q0 rfl⟩
  · refine HT.cat_tup p1 p2 (fun z => hx (r1.nil_iff.mp z)) (fun z => ⟨.ref a, H, I, rfl, q1 hx (r2.nil_iff.mp z)⟩) (fun z => ?_) (by rw [← r1.length, ← r2.length]; exact hz)
    exact laid_frz (its := (its ++ its2).toArray) I (by simpa using r1.append r2) (by rw [List.length_append]; exact hz) (q2 hx fun w => z (r2.nil_iff.mpr w))
/-- t[lo:hi] -/
def rSlN (K : PySem.W.Frag) : V → Option Int → Option Int → Hp → VK → Prop := fun x lo hi H Q => ∃ a xs, x = .ref a ∧ SqT K H a xs ∧
  (HT.sIx xs.length 0 lo = 0 ∧ HT.sIx xs.length xs.length hi = xs.length → Q (.ref a) H) ∧ (¬ (HT.sIx xs.length 0 lo = 0 ∧ HT.sIx xs.length xs.length hi = xs.length) → LayT H Q (cutV xs lo hi))
theorem sl_tupN : SlR X (rSlN X.K) := by
  intro pins s σ H x v vl vu lo hi sl Q I rx hs pl pu h
  obtain ⟨a, xs, rfl, hx, q1, q2⟩ := h
  cases rx
  obtain ⟨its, r, ht, hz⟩ := I.tuple hx
  have hlen : its.toArray.size = xs.length := by rw [List.size_toArray]; exact r.length.symm
  refine ⟨"tuple", _, PyProof.Rows.slot_tuple_getitem.lookup, ht.typeIs, ?_⟩
  by_cases hw : HT.sIx xs.length 0 lo = 0 ∧ HT.sIx xs.length xs.length hi = xs.length
  · exact getItem_tuple_whole ht hs pl pu (by rw [hlen]; exact hw) ⟨.ref a, H, I, rfl, q1 hw⟩
  · refine HT.getItem_tuple_cut ht hs pl pu (by rw [hlen]; exact hw) ?_ (by rw [hlen]; exact hz)
    rw [hlen]
    refine laid_frz I ?_ (Nat.le_trans (cutV_length xs lo hi) hz) (q2 hw)
    unfold cutV
    simpa using (r.drop (HT.sIx xs.length 0 lo)).take (HT.sIx xs.length xs.length hi - HT.sIx xs.length 0 lo)
/-- tuple(range(..)) -/
def tTupRgN (te : L2.St → Hp → (Int → Int → Hp → Prop) → Prop) : TE := fun σ H Q => te σ H fun a b H1 => RgOk a b ∧ LayT H1 Q (rgV a b)
theorem pe_tupRgN {e : Expr} {te : L2.St → Hp → (Int → Int → Hp → Prop) → Prop} {p pos : Pos} (hc : X.calm = true) (hg : Gl X "tuple") (hm : X.mg "tuple" = none) (he : PRg X e te) (na : starEach [e] X.env = (false, eval e X.env) :: starEach [] X.env := by rfl) : PE X (.Call (.Name "tuple" p) [e] [] pos) (tTupRgN te) := by
  refine ⟨fun pins s σ H Q I h => ?_⟩
  refine Call_ (ld_blt I hg hm boot_tuple (PyProof.Rows.callWith_type1 (args_cons (thn (he pins s σ H _ I h) fun x s1 ⟨r, a, b, t, u, v, H1, ex, hr, I1, ok, q⟩ => args_nil ?_) na) na))
  subst ex
  obtain ⟨b1, b2, b3, b4, b5⟩ := ok
  refine call_tuple_range (n := (b - a).toNat) (I1.ok.hd hc) hr (small_one b1 b2 b3 b4) (rangeSize_nat a b) b5 fun h' tk acc hk hi => ?_
  have I2 : Inv X pins σ H1 { s1 with heap := h', toks := tk } := I1.kept hk
  exact laid_frz I2 (vals_rg hi) (by rw [rgV_length, sizeLine_eq]; omega) q
end

/-! ### dict(a tuple of pairs) -/
theorem SqN.seq {X : Cx} {pins : List (Addr × Obj)} {σ : L2.St} {H : Hp} {s : Shared} (I : Inv X pins σ H s) {a : Addr} {xs : List V} (h : SqN X.K H a xs) : ∃ its : List Value, Vals xs its ∧ PlainSeq "tuple" s.heap a its.toArray ∧ xs.length ≤ sizeLine := by
  rcases h with ⟨o, h, hd⟩ | ⟨o, its, n, hk, hc, hd, hs, hz, r⟩
  · obtain ⟨e, hz, its, r, ⟨o', e', hc, n, hs⟩⟩ : s.heap.get? a = some o ∧ ObjOk X.prog X.w H s.heap a (.tup xs) := I.hok a _ h
    rw [e] at e'
    cases e'
    exact ⟨its, r, ⟨o, n, e, hc, hd, hs⟩, hz⟩
  · refine ⟨its.toList, r, ⟨o, n, I.kIn a o hk, hc, hd, by simpa using hs⟩, ?_⟩
    have e := r.length
    simp only [Array.length_toList] at e
    omega
def rDictT (K : PySem.W.Frag) : List V → Hp → VK → Prop := fun xs H Q => ∃ (a : Addr) (ps : List (Addr × Key × V)), xs = [.ref a] ∧ SqN K H a (ps.map fun p => .ref p.1) ∧ (∀ p ∈ ps, SqT K H p.1 [kV p.2.1, p.2.2]) ∧ ∀ l, H l = none → Q (.ref l) (upd H l (.dK (mergeK [] (ps.map Prod.snd))))
theorem mergeK_len (ps : List (Key × V)) : ∀ acc : List (Key × V), (mergeK acc ps).length ≤ acc.length + ps.length := by
  induction ps with
  | nil => intro acc; exact Nat.le_refl _
  | cons p r ih =>
    intro acc
    have h1 := ih (putK acc p.1 p.2)
    have h2 : (putK acc p.1 p.2).length ≤ acc.length + 1 := by
      unfold putK
      split
      · rw [List.length_map]; omega
      · rw [List.length_append]; simp
    show (mergeK (putK acc p.1 p.2) r).length ≤ _
    rw [List.length_cons]
    omega
theorem pairs_at {X : Cx} {pins : List (Addr × Obj)} {σ : L2.St} {H : Hp} {s : Shared} (I : Inv X pins σ H s) : ∀ {ps : List (Addr × Key × V)}, (∀ p ∈ ps, SqT X.K H p.1 [kV p.2.1, p.2.2]) →
    ∃ qs : List (Key × Value × Value), qs.length = ps.length ∧ KV (ps.map Prod.snd) (qs.map fun q => (q.1, q.2.2)) ∧ ∀ (j : Nat) (q : Key × Value × Value) (p : Addr × Key × V), qs[j]? = some q → ps[j]? = some p → RelV (kV q.1) q.2.1 ∧ PairAt s.heap p.1 q.2.1 q.2.2
  | [], _ => ⟨[], rfl, .nil, fun j q p h => by simp at h⟩
  | p :: r, h => by
    obtain ⟨qs, h1, h2, h3⟩ := pairs_at I (ps := r) fun x hx => h x (List.mem_cons_of_mem _ hx)
    obtain ⟨its, rv, pl, _⟩ := I.tuple (h p List.mem_cons_self)
    cases rv with
    | cons r1 t =>
      cases t with
      | cons r2 t =>
        cases t
        rename_i u1 u2
        refine ⟨(p.2.1, u1, u2) :: qs, by rw [List.length_cons, List.length_cons, h1], .cons ⟨rfl, r2⟩ h2, fun j q p' hq hp => ?_⟩
        cases j with
        | zero =>
          simp only [List.getElem?_cons_zero, Option.some.injEq] at hq hp
          subst hq hp
          exact ⟨r1, .inl pl⟩
        | succ j =>
          simp only [List.getElem?_cons_succ] at hq hp
          exact h3 j q p' hq hp
theorem cr_dictT {X : Cx} (hc : X.calm = true) : CallR X (.type "dict") (rDictT X.K) := by
  intro pins s σ H vs us Q I r h
  obtain ⟨a, ps, rfl, hs, hp, q⟩ := h
  rw [Vals.ref1 r]
  obtain ⟨its, rv, hl, hz⟩ := hs.seq I
  obtain ⟨qs, q1, q2, q3⟩ := pairs_at I hp
  rw [List.length_map] at hz
  let Ts : Nat → Addr := fun j => ((ps[j]?).map Prod.fst).getD 0
  have hT : ∀ j (h : j < ps.length), Ts j = (ps[j]).1 := fun j h => by
    show ((ps[j]?).map Prod.fst).getD 0 = _
    rw [List.getElem?_eq_getElem h]
    rfl
  have hlen : its.length = ps.length := by rw [← rv.length, List.length_map]
  have PI : PairItems s.heap its.toArray Ts (qs.map fun q => (q.2.1, q.2.2)) := by
    refine ⟨by rw [List.size_toArray, List.length_map, hlen, q1], fun j k v hj => ?_⟩
    rw [List.getElem?_map] at hj
    obtain ⟨qj, hqj, e⟩ := Option.map_eq_some_iff.mp hj
    cases e
    have lj : j < ps.length := by rw [← q1]; exact (List.getElem?_eq_some_iff.mp hqj).1
    obtain ⟨_, pa⟩ := q3 j qj ps[j] hqj (List.getElem?_eq_getElem lj)
    rw [hT j lj]
    refine ⟨?_, pa⟩
    obtain ⟨u, hu, ru⟩ := rv.get (i := j) (x := .ref (ps[j]).1) (by rw [List.getElem?_map, List.getElem?_eq_getElem lj]; rfl)
    cases ru
    simpa using hu
  refine call_dict_pairs (knd := mixKind X.prog X.w) (kvs := qs.map fun q => (q.1, q.2.2)) (PairArg.tuple a its.toArray Ts (qs.map fun q => (q.2.1, q.2.2))) (I.ok.hd hc) ⟨hl, PI⟩ ⟨by rw [List.length_map, List.length_map], fun i k v hi => ?_⟩ (by rw [List.length_map, q1]; exact hz) fun h' tk hd hk => ?_
  · have hi' : (qs.map fun q => (q.2.1, q.2.2))[i]? = some (k, v) := hi
    rw [List.getElem?_map] at hi'
    obtain ⟨qj, hqj, e⟩ := Option.map_eq_some_iff.mp hi'
    cases e
    have lj : i < ps.length := by rw [← q1]; exact (List.getElem?_eq_some_iff.mp hqj).1
    refine ⟨qj.1, by rw [List.getElem?_map, hqj]; rfl, kV_is (q3 i qj ps[i] hqj (List.getElem?_eq_getElem lj)).1⟩
  · have hm : (s.heap.objs.size == sysModules) = false := beq_eq_false_iff_ne.mpr (Nat.ne_of_gt I.big)
    have hkv : KV (mergeK [] (ps.map Prod.snd)) (merged [] (qs.map fun q => (q.1, q.2.2))) := KV.merge q2 .nil
    have hle : (mergeK [] (ps.map Prod.snd)).length ≤ sizeLine := Nat.le_trans (mergeK_len _ _) (by rw [List.length_map]; simpa using hz)
    exact ⟨.ref s.heap.objs.size, _, I.laid (t' := tk) (o := .dK (mergeK [] (ps.map Prod.snd))) (fun b u e => hk b u (by simp) e) (Nat.le_refl _) ⟨hle, hm, _, hkv, hd⟩, rfl, q _ (I.hok.fresh (Nat.le_refl _))⟩
end MP
/-! MPNew: own classes whose __init__ sets a field for each parameter. -/
namespace MP
open PySem PySem.Spec PyProof.Rows L2

/-- __init__(self, f, ..): self.f = f, .. -/
def spNew (C : Addr) (fs : List Str) : Sp := fun vs H Q _ => ∃ (a dx : Addr) (ys : List V), vs = .ref a :: ys ∧ ys.length = fs.length ∧ H a = some (.ins C dx []) ∧ Q .non (upd H a (.ins C dx (fs.zip ys)))
def isSet (f : Str) : Stmt → Bool
  | .Assign [.Attribute (.Name s _) g _] (.Name h _) _ => s == ("self" : Str) && g == f && h == f
  | _ => false
def isInit : List Str → List Stmt → Bool
  | [], [] => true
  | f :: r, s :: q => isSet f s && isInit r q
  | _, _ => false
theorem isSet_ok {f : Str} {s : Stmt} (h : isSet f s = true) : ∃ p1 p2 p3 pos, s = .Assign [.Attribute (.Name "self" p1) f p2] (.Name f p3) pos := by
  unfold isSet at h
  split at h
  · rename_i s1 p1 g p2 h1 p3 pos
    simp only [Bool.and_eq_true, beq_iff_eq] at h
    obtain ⟨⟨rfl, rfl⟩, rfl⟩ := h
    exact ⟨p1, p2, p3, pos, rfl⟩
  · cases h
theorem putF_end {f : Str} {y : V} : ∀ {xs : List (Str × V)}, f ∉ xs.map Prod.fst → putF f y xs = xs ++ [(f, y)]
  | [], _ => rfl
  | (k, v) :: r, h => by
    rw [List.map_cons, List.mem_cons, not_or] at h
    unfold putF
    rw [if_neg (fun z => h.1 z.symm), putF_end h.2]
    rfl
section
variable {X : Cx} {C : Addr}
theorem init_body (h0 : X.N[0]? = some ("self" : Str)) (v0 : Vis X.env.scope ("self" : Str)) (cl : Cls X.K C) : ∀ (todo : List Str) (body : List Stmt) (k : Nat), isInit todo body = true →
    (∀ j f, todo[j]? = some f → X.N[k + j]? = some f ∧ Vis X.env.scope f ∧ (f == ("__debug__" : Str)) = false ∧ (f == ("__classdict__" : Str)) = false ∧ NoAttr X.K C f) → todo.Nodup →
    ∃ t, PSs X body t ∧ ∀ (D : L2.Ends) (σ : L2.St) (H : Hp) (a dx : Addr) (xs : List (Str × V)) (ys : List V), ys.length = todo.length → σ[0]? = some (some (.ref a)) → (∀ j y, ys[j]? = some y → σ[k + j]? = some (some y)) → H a = some (.ins C dx xs) → xs.length + todo.length ≤ 1000 →
      (∀ f ∈ todo, f ∉ xs.map Prod.fst) → D.nx σ (upd H a (.ins C dx (xs ++ todo.zip ys))) → t D σ H
  | [], body, k, hb, _, _ => by
    cases body with
    | nil =>
      refine ⟨_, pss_nil, fun D σ H a dx xs ys hl _ _ ha _ _ q => ?_⟩
      have e : upd H a (.ins C dx (xs ++ [].zip ys)) = H := by
        funext b
        unfold upd
        split
        · rename_i hb; subst hb; rw [ha]; simp
        · rfl
      rw [e] at q
      exact q
    | cons _ _ => cases hb
  | f :: r, body, k, hb, hN, hnd => by
    cases body with
    | nil => cases hb
    | cons s q =>
      simp only [isInit, Bool.and_eq_true] at hb
      obtain ⟨p1, p2, p3, pos, rfl⟩ := isSet_ok hb.1
      obtain ⟨n1, n2, n3, n4, n5⟩ := hN 0 f rfl
      rw [List.nodup_cons] at hnd
      obtain ⟨t, ht, hq⟩ := init_body h0 v0 cl r q (k + 1) hb.2 (fun j g e => by
        have := hN (j + 1) g (by simpa using e)
        rw [show k + 1 + j = k + (j + 1) by omega]
        exact this) hnd.2
      refine ⟨_, pss_cons (ps_fld (pe_var h0 v0) (pe_var n1 n2 n3 n4) rfl) ht, fun D σ H a dx xs ys hl s0 sj ha hz hf hD => ?_⟩
      cases ys with
      | nil => cases hl
      | cons y ys =>
        refine ⟨y, sj 0 y rfl, .ref a, s0, a, C, dx, xs, rfl, ha, cl, n5, by rw [List.length_cons] at hz; omega, ?_⟩
        refine hq D σ _ a dx (putF f y xs) ys (by simpa using hl) s0 (fun j z e => by
          rw [show k + 1 + j = k + (j + 1) by omega]
          exact sj (j + 1) z (by simpa using e)) upd_same ?_ (fun g hg => ?_) ?_
        · rw [putF_end (hf f List.mem_cons_self), List.length_append]
          rw [List.length_cons] at hz
          simp
          omega
        · rw [putF_end (hf f List.mem_cons_self), List.map_append, List.mem_append, not_or]
          refine ⟨hf g (List.mem_cons_of_mem _ hg), fun z => ?_⟩
          simp at z
          subst z
          exact hnd.1 hg
        · rw [upd_upd, putF_end (hf f List.mem_cons_self), List.append_assoc]
          exact hD
end
/-- what the top has of a class of one's own -/
structure NewC (K : PySem.W.Frag) (C fI : Addr) (fs : List Str) : Prop where
  cls : Cls K C
  na : ∀ f ∈ fs, NoAttr K C f
  made : Mk K C fI
section
variable {P : Program} {w : World} {K : PySem.W.Frag} {mg : Str → Option Value} {base : Heap}
theorem new_ok {qual : Str} {st : Stmt} {C fI : Addr} {fd : FuncData} {fs : List Str} (F : Fun K "__init__" qual st fI fd) (S : FnScope ("self" :: fs) ("self" :: fs) (defScope st)) (hb : isInit fs (defBody st) = true) (hv : ∀ x ∈ ("self" : Str) :: fs, Vis (defScope st) x)
    (hd : ∀ f ∈ fs, (f == ("__debug__" : Str)) = false ∧ (f == ("__classdict__" : Str)) = false) (hz : fs.length ≤ 1000) (cl : NewC K C fI fs) : FnOk P w K mg base (L2.CX P w) 1 fI fd ("self" :: fs) (spNew C fs) := by
  refine F.okX S (fun vs H Q E h => ?_) (fun cdv A outer s H vs Q E hr h => ?_)
  · obtain ⟨a, dx, ys, rfl, hl, _⟩ := h
    rw [List.length_cons, List.length_cons, hl]
  · obtain ⟨a, dx, ys, rfl, hl, ha, q⟩ := h
    have nd := S.nd
    rw [List.nodup_cons] at nd
    obtain ⟨t, ht, hq⟩ := init_body (X := cxOf (L2.CX P w) P w K mg base ("self" :: fs) qual (defScope st) fI cdv A outer s H E) (C := C) rfl (hv _ List.mem_cons_self) cl.cls fs (defBody st) 1 hb (fun j f e => by
      have hm := List.mem_of_getElem? e
      refine ⟨?_, hv _ (List.mem_cons_of_mem _ hm), (hd f hm).1, (hd f hm).2, cl.na f hm⟩
      show (("self" : Str) :: fs)[1 + j]? = some f
      rw [Nat.add_comm, List.getElem?_cons_succ]
      exact e) nd.2
    have st : ∀ j y, ys[j]? = some y → (L2.start ("self" :: fs) (V.ref a :: ys))[1 + j]? = some (some y) := fun j y e => by
      have hj := (List.getElem?_eq_some_iff.mp e).1
      unfold L2.start
      rw [Nat.add_comm, List.map_cons, List.cons_append, List.getElem?_cons_succ, List.getElem?_append_left (by rw [List.length_map]; exact hj), List.getElem?_map, e]
      rfl
    refine ⟨t, ht, hq _ (L2.start ("self" :: fs) (V.ref a :: ys)) H a dx [] ys hl rfl st ha (by simpa using hz) (fun _ _ z => by cases z) q⟩
end
end MP
/-! MPNd: dicts whose keys are nested tuples, as things of the hand layer (HO.ext); k in d, d[k], d[k] = v, {k: v}, a walk. -/
namespace MP
open PySem PySem.Spec PyProof.Rows L2

/-- the dict at p has these keys, at these places, with these values -/
def NdP (w : World) (p : Addr) (xs : List (NestedKey × Addr × V)) (h : Heap) : Prop :=
  ∃ (o : Obj) (es : Array DictEntry) (ep : Nat) (ys : List (NestedKey × Addr × Value)), h.get? p = some o ∧ o.ExactDict ∧ o.data = .dict es ep ∧ es.toList = ys.map (fun y => ({ hash := NestedKey.hash w y.1, key := .ref y.2.1, val := y.2.2 } : DictEntry)) ∧
    Paired (fun x y => x.1 = y.1 ∧ x.2.1 = y.2.1 ∧ RelV x.2.2 y.2.2) xs ys ∧ (xs.map (·.1)).Nodup ∧ (p == sysModules) = false ∧ xs.length ≤ sizeLine
theorem NdP.at {w : World} {p : Addr} {xs : List (NestedKey × Addr × V)} {h h' : Heap} (x : NdP w p xs h) (k : ∀ o, h.get? p = some o → h'.get? p = some o) : NdP w p xs h' := by
  obtain ⟨o, es, ep, ys, h1, r⟩ := x
  exact ⟨o, es, ep, ys, k o h1, r⟩
theorem NdP.obj {P : Program} {w : World} {H : Hp} {p : Addr} {xs : List (NestedKey × Addr × V)} {h : Heap} (x : NdP w p xs h) : ObjOk P w H h p (.ext (NdP w p xs)) :=
  ⟨x, by obtain ⟨o, _, _, _, h1, _⟩ := x; exact ⟨o, h1⟩, fun h1 h2 z k => z.at k⟩
/-! ### what is a key -/
mutual
inductive NkV (K : PySem.W.Frag) (H : Hp) : NestedKey → V → Prop
  | non : NkV K H .none .non
  | num (i : Int) : NkV K H (.num i) (.int i)
  | text (x : Str) : NkV K H (.text x) (.str x)
  | tup {p : Addr} {ks : List NestedKey} {vs : List V} : SqT K H p vs → NkVs K H ks vs → NkV K H (.tup ks) (.ref p)
inductive NkVs (K : PySem.W.Frag) (H : Hp) : List NestedKey → List V → Prop
  | nil : NkVs K H [] []
  | cons {k : NestedKey} {v : V} {ks : List NestedKey} {vs : List V} : NkV K H k v → NkVs K H ks vs → NkVs K H (k :: ks) (v :: vs)
end
section
variable {X : Cx} {pins : List (Addr × Obj)} {σ : L2.St} {H : Hp} {s : Shared}
mutual
theorem nk_is (I : L2.Inv X pins σ H s) : ∀ {k : NestedKey} {v : V} {u : Value}, NkV X.K H k v → RelV v u → NestedIs s.heap k u
  | _, _, u, .non, r => by
    have e : u = Value.none := r
    subst e
    exact .none
  | _, _, u, .num i, r => by
    obtain ⟨t, rfl⟩ : ∃ t, u = Value.int i t := r
    exact .int i t
  | _, _, u, .text x, r => by
    obtain ⟨t, rfl⟩ : ∃ t, u = Value.str x t := r
    exact .text x t
  | _, _, u, .tup hq hs, r => by
    obtain rfl : u = Value.ref _ := r
    obtain ⟨its, rv, ⟨o, ho, hc, n, hd⟩, _⟩ := I.tuple hq
    exact .tup ho hc hd (by simpa using nk_all I hs rv)
theorem nk_all (I : L2.Inv X pins σ H s) : ∀ {ks : List NestedKey} {vs : List V} {us : List Value}, NkVs X.K H ks vs → Vals vs us → NestedAll s.heap ks us
  | _, _, us, .nil, r => by cases r; exact .nil
  | _, _, us, .cons h hs, r => by
    cases r with
    | cons r1 r2 => exact .cons (nk_is I h r1) (nk_all I hs r2)
end
/-- a key that stands: its place, its form -/
def IsNk (K : PySem.W.Frag) (H : Hp) (k : NestedKey) (b : Addr) : Prop := NkV K H k (.ref b) ∧ k.depth ≤ 8
theorem nk_key (I : L2.Inv X pins σ H s) {k : NestedKey} {b : Addr} (h : IsNk X.K H k b) : (nestedKind X.prog X.w).is s.heap k b := ⟨nk_is I h.1 rfl, h.2⟩
/-- a dict that stands, its keys -/
def NdAt (K : PySem.W.Frag) (w : World) (H : Hp) (a : Addr) (xs : List (NestedKey × Addr × V)) : Prop := Rd H a (.ext (NdP w a xs)) ∧ ∀ x ∈ xs, IsNk K H x.1 x.2.1
def RelX (x : NestedKey × Addr × V) (y : NestedKey × Addr × Value) : Prop := x.1 = y.1 ∧ x.2.1 = y.2.1 ∧ RelV x.2.2 y.2.2
theorem relx_keys : ∀ {xs : List (NestedKey × Addr × V)} {ys : List (NestedKey × Addr × Value)}, Paired RelX xs ys → xs.map (·.1) = ys.map (·.1)
  | _, _, .nil => rfl
  | _, _, .cons h r => by rw [List.map_cons, List.map_cons, h.1, relx_keys r]
theorem relx_mem : ∀ {xs : List (NestedKey × Addr × V)} {ys : List (NestedKey × Addr × Value)}, Paired RelX xs ys → ∀ y ∈ ys, ∃ x ∈ xs, RelX x y
  | _, _, .nil, y, hy => by cases hy
  | _, _, .cons h r, y, hy => by
    rcases List.mem_cons.mp hy with rfl | hy
    · exact ⟨_, List.mem_cons_self, h⟩
    · obtain ⟨x, hx, q⟩ := relx_mem r y hy
      exact ⟨x, List.mem_cons_of_mem _ hx, q⟩
theorem relx_get : ∀ {xs : List (NestedKey × Addr × V)} {ys : List (NestedKey × Addr × Value)}, Paired RelX xs ys → ∀ {i : Nat} {y : NestedKey × Addr × Value}, ys[i]? = some y → ∃ x, xs[i]? = some x ∧ RelX x y
  | _, _, .nil, i, y, h => by simp at h
  | _, _, .cons h r, 0, y, e => by
    have := Option.some.inj e
    subst this
    exact ⟨_, rfl, h⟩
  | _, _, .cons h r, i + 1, y, e => by
    obtain ⟨x, h1, h2⟩ := relx_get r (i := i) (by simpa using e)
    exact ⟨x, by simpa using h1, h2⟩
def atX (xs : List (NestedKey × Addr × V)) (k : NestedKey) : Option (Addr × V) := (xs.find? fun x => decide (x.1 = k)).map (·.2)
theorem relx_at {k : NestedKey} : ∀ {xs : List (NestedKey × Addr × V)} {ys : List (NestedKey × Addr × Value)}, Paired RelX xs ys → (∀ p, atX xs k = some p → ∃ q, atKey ys k = some q ∧ p.1 = q.1 ∧ RelV p.2 q.2) ∧ (atX xs k = none → atKey ys k = none)
  | _, _, .nil => ⟨fun p h => by simp [atX] at h, fun _ => rfl⟩
  | x :: xs, y :: ys, .cons h r => by
    have ih := relx_at (k := k) r
    unfold atX atKey at *
    rw [List.find?_cons, List.find?_cons]
    by_cases e : x.1 = k
    · have e2 : y.1 = k := by rw [← h.1]; exact e
      rw [decide_eq_true e, decide_eq_true e2]
      exact ⟨fun p hp => by cases hp; exact ⟨_, rfl, h.2⟩, fun z => by cases z⟩
    · have e2 : ¬ y.1 = k := by rw [← h.1]; exact e
      rw [decide_eq_false e, decide_eq_false e2]
      exact ih
theorem nd_dict (I : L2.Inv X pins σ H s) {a : Addr} {xs : List (NestedKey × Addr × V)} (h : NdAt X.K X.w H a xs) : ∃ ys, Paired RelX xs ys ∧ Heap.DictOfH (nestedKind X.prog X.w) s.heap a ys ∧ (a == sysModules) = false ∧ xs.length ≤ sizeLine := by
  have x : NdP X.w a xs s.heap := by
    rcases h.1 with e | ⟨o, e⟩
    · exact (I.hok a _ e).1
    · exact (I.hok a _ e).2.1
  obtain ⟨o, es, ep, ys, h1, h2, h3, h4, h5, h6, h7, h8⟩ := x
  refine ⟨ys, h5, ⟨o, es, ep, h1, h2, h3, ?_, fun y hy => ?_, ?_⟩, h7, h8⟩
  · rw [h4]
    rfl
  · obtain ⟨x, hx, q⟩ := relx_mem h5 y hy
    rw [← q.1, ← q.2.1]
    exact nk_key I (h.2 x hx)
  · rw [← relx_keys h5]
    exact h6
theorem nd_of {h' : Heap} {a : Addr} {xs : List (NestedKey × Addr × V)} {ys : List (NestedKey × Addr × Value)} (p : Paired RelX xs ys) (d : Heap.DictOfH (nestedKind X.prog X.w) h' a ys) (hs : (a == sysModules) = false) (hz : xs.length ≤ sizeLine) : NdP X.w a xs h' := by
  obtain ⟨o, es, ep, h1, h2, h3, h4, _, h6⟩ := d
  exact ⟨o, es, ep, ys, h1, h2, h3, by rw [h4]; rfl, p, by rw [relx_keys p]; exact h6, hs, hz⟩
end
/-! ### the rules -/
def rInN (K : PySem.W.Frag) (w : World) (neg : Bool) : R2 := fun x y H Q => ∃ (a b : Addr) (xs : List (NestedKey × Addr × V)) (k : NestedKey), x = .ref b ∧ y = .ref a ∧ NdAt K w H a xs ∧ IsNk K H k b ∧ Q (.bl (neg ^^ (atX xs k).isSome)) H
theorem nd_isSome {xs : List (NestedKey × Addr × V)} {ys : List (NestedKey × Addr × Value)} {k : NestedKey} (p : Paired RelX xs ys) : (atKey ys k).isSome = (atX xs k).isSome := by
  obtain ⟨h1, h2⟩ := relx_at (k := k) p
  cases e : atX xs k with
  | none => rw [h2 e]; rfl
  | some q =>
    obtain ⟨z, hz, _⟩ := h1 q e
    rw [hz]
    rfl
theorem in_nd {X : Cx} (hu : X.A.units + 9 < cLine) : OpR X (compareOp .In) (rInN X.K X.w false) := by
  intro pins s σ H x y v u Q I rx ry ⟨a, b, xs, k, ex, ey, hN, hk, q⟩
  subst ex ey
  obtain rfl : v = Value.ref b := rx
  obtain rfl : u = Value.ref a := ry
  obtain ⟨ys, p, d, hs, _⟩ := nd_dict I hN
  refine wpAny_in_heap (knd := nestedKind X.prog X.w) (by show X.A.units + 1 + 8 < cLine; omega) (nk_key I hk) hs d ?_
  rw [nd_isSome p]
  exact ⟨.bl _, H, I.kept (h' := s.heap) fun _ _ z => z, rfl, by simpa using q⟩
theorem notin_nd {X : Cx} (hu : X.A.units + 9 < cLine) : OpR X (compareOp .NotIn) (rInN X.K X.w true) := by
  intro pins s σ H x y v u Q I rx ry ⟨a, b, xs, k, ex, ey, hN, hk, q⟩
  subst ex ey
  obtain rfl : v = Value.ref b := rx
  obtain rfl : u = Value.ref a := ry
  obtain ⟨ys, p, d, hs, _⟩ := nd_dict I hN
  refine notIn_keyed (knd := nestedKind X.prog X.w) (kvs := pairsH ys) (by show X.A.units + 1 + 8 < cLine; omega) (nk_key I hk) hs ⟨ys, d, rfl⟩ ?_
  have e : (valueAt (pairsH ys) k).isSome = (atX xs k).isSome := by rw [valueAt_pairsH, Option.isSome_map, nd_isSome p]
  rw [e]
  exact ⟨.bl _, H, I.kept (h' := s.heap) fun _ _ z => z, rfl, by simpa using q⟩
def rIxN (K : PySem.W.Frag) (w : World) : R2 := fun x y H Q => ∃ (a b : Addr) (xs : List (NestedKey × Addr × V)) (k : NestedKey) (z : Addr × V), x = .ref a ∧ y = .ref b ∧ NdAt K w H a xs ∧ IsNk K H k b ∧ atX xs k = some z ∧ Q z.2 H
theorem ix_nd {X : Cx} (hu : X.A.units + 9 < cLine) : IxR X (rIxN X.K X.w) := by
  intro value slice pins s σ H x y v u Q I rx ry ⟨a, b, xs, k, z, ex, ey, hN, hk, hz, q⟩ hs
  subst ex ey
  obtain rfl : v = Value.ref a := rx
  obtain rfl : u = Value.ref b := ry
  obtain ⟨ys, p, d, hsm, _⟩ := nd_dict I hN
  obtain ⟨z', hz', e1, rz⟩ := (relx_at p).1 z hz
  have ty : s.TypeIs (.ref a) "dict" := Heap.DictKeyed.typeIs (knd := nestedKind X.prog X.w) ⟨ys, d, rfl⟩
  unfold subscriptTail
  refine wpAny_bind ?_
  rw [getitemInPython_of_ne ty.not_modules]
  refine wpAny_bind (wpAny_specialOf ty PySem.F.slot_dict_getitem.lookup ?_)
  have fin : wpAny (model X.prog X.w) X.A (subscripted slice false (.ref a) (.ref b)) (fun r s₃ => wpAny (model X.prog X.w) X.A (letTemporaryGo value (.ref a) r >>= fun _ => pure r) (EP X pins σ Q) X.xe s₃) X.xe s := by
    rw [hs]
    refine wpAny_operating (wpAny_getItem_heap (knd := nestedKind X.prog X.w) (by show X.A.units + 1 + 8 < cLine; omega) (nk_key I hk) d hz' ?_)
    exact wpAny_bind (wpAny_letTemporaryGo (wpAny_pure ⟨_, H, I.kept (h' := s.heap) fun _ _ z => z, rz, q⟩))
  first
    | exact wpAny_pure (wpAny_bind fin)
    | exact wpAny_bind (wpAny_pure (wpAny_bind fin))
    | exact wpAny_bind fin
def putX (xs : List (NestedKey × Addr × V)) (k : NestedKey) (b : Addr) (v : V) : List (NestedKey × Addr × V) := if (atX xs k).isSome = true then xs.map (fun x => if x.1 = k then (x.1, x.2.1, v) else x) else xs ++ [(k, b, v)]
theorem relx_map {k : NestedKey} {v : V} {u : Value} (r : RelV v u) : ∀ {xs : List (NestedKey × Addr × V)} {ys : List (NestedKey × Addr × Value)}, Paired RelX xs ys → Paired RelX (xs.map fun x => if x.1 = k then (x.1, x.2.1, v) else x) (ys.map (putAt k u))
  | _, _, .nil => .nil
  | x :: xs, y :: ys, .cons h t => by
    rw [List.map_cons, List.map_cons]
    refine .cons ?_ (relx_map r t)
    unfold putAt
    by_cases e : x.1 = k
    · have e2 : y.1 = k := by rw [← h.1]; exact e
      rw [if_pos e, if_pos e2]
      exact ⟨h.1, h.2.1, r⟩
    · have e2 : ¬ y.1 = k := by rw [← h.1]; exact e
      rw [if_neg e, if_neg e2]
      exact h
theorem relx_app {z : NestedKey × Addr × V} {z' : NestedKey × Addr × Value} (q : RelX z z') : ∀ {xs : List (NestedKey × Addr × V)} {ys : List (NestedKey × Addr × Value)}, Paired RelX xs ys → Paired RelX (xs ++ [z]) (ys ++ [z'])
  | _, _, .nil => .cons q .nil
  | _, _, .cons h t => .cons h (relx_app q t)
theorem relx_put {k : NestedKey} {b : Addr} {v : V} {u : Value} (r : RelV v u) {xs : List (NestedKey × Addr × V)} {ys : List (NestedKey × Addr × Value)} (p : Paired RelX xs ys) : Paired RelX (putX xs k b v) (storedH ys k b u) := by
  unfold putX storedH
  rw [nd_isSome p]
  split
  · exact relx_map r p
  · exact relx_app ⟨rfl, rfl, r⟩ p
theorem putX_len (xs : List (NestedKey × Addr × V)) (k : NestedKey) (b : Addr) (v : V) : (putX xs k b v).length ≤ xs.length + 1 := by
  unfold putX
  split <;> simp
def rSetN (K : PySem.W.Frag) (w : World) : TSet := fun o i v H Q => ∃ (a b : Addr) (xs : List (NestedKey × Addr × V)) (k : NestedKey), o = .ref a ∧ i = .ref b ∧ H a = some (.ext (NdP w a xs)) ∧ (∀ x ∈ xs, IsNk K H x.1 x.2.1) ∧ IsNk K H k b ∧ xs.length < sizeLine ∧ Q (upd H a (.ext (NdP w a (putX xs k b v))))
theorem set_nd {X : Cx} (hu : X.A.units + 9 < cLine) : PSet X (rSetN X.K X.w) := by
  intro pins s σ H o i v ov iv u Q I ro ri rv ⟨a, b, xs, k, eo, ei, hH, hN, hk, hz, q⟩
  subst eo ei
  obtain rfl : ov = Value.ref a := ro
  obtain rfl : iv = Value.ref b := ri
  obtain ⟨ys, p, d, hs, hz2⟩ := nd_dict I ⟨.inl hH, hN⟩
  refine wpAny_setItem_heap (knd := nestedKind X.prog X.w) (by show X.A.units + 1 + 8 < cLine; omega) (nk_key I hk) d (fun h' d' sb => ?_) (by rw [← p.length]; exact hz2)
  have n := nd_of (relx_put (k := k) (b := b) rv p) d' hs (by have := putX_len xs k b v; omega)
  refine ⟨_, d_write I (by rw [hH]; exact trivial) sb ?_ n.obj, q⟩
  obtain ⟨o, _, _, h1, _⟩ := d'
  exact ⟨o, h1⟩
/-! ### {k: v} -/
def tDispN (K : PySem.W.Frag) (w : World) (ta tb : TE) : TE := fun σ H Q => ∀ p, H p = none → ta σ (upd H p (.ext (NdP w p []))) fun x H1 => tb σ H1 fun y H2 => H2 p = some (.ext (NdP w p [])) ∧ ∃ (b : Addr) (k : NestedKey), x = .ref b ∧ IsNk K H2 k b ∧ Q (.ref p) (upd H2 p (.ext (NdP w p [(k, b, y)])))
theorem nd_empty {P : Program} {w : World} (h : Heap) (hb : sysModules < h.objs.size) : NdP w h.objs.size [] (h.push { cls := .type "dict", data := .dict #[] }) := by
  obtain ⟨ys, d, e⟩ := Heap.DictKeyed.new (knd := nestedKind P w) h
  obtain ⟨o, es, ep, h1, h2, h3, h4, _, h6⟩ := d
  have e0 : ys = [] := by
    unfold pairsH at e
    simpa using e
  subst e0
  refine ⟨o, es, ep, [], h1, h2, h3, by rw [h4]; rfl, .nil, List.nodup_nil, ?_, Nat.zero_le _⟩
  rw [beq_eq_false_iff_ne]
  exact fun z => absurd hb (by rw [z]; exact Nat.lt_irrefl _)
theorem pe_dispN {X : Cx} {a b : Expr} {ta tb : TE} {pos : Pos} (ha : PE X a ta) (hb : PE X b tb) (hu : X.A.units + 9 < cLine) : PE X (.Dict [some a] [b] pos) (tDispN X.K X.w ta tb) := by
  refine ⟨fun pins s σ H Q I q => ?_⟩
  have hn := I.hok.fresh (Nat.le_refl s.heap.objs.size)
  have n0 := nd_empty (P := X.prog) (w := X.w) s.heap I.big
  have I1 := I.laid (t' := s.toks) (fun x x_1 q => Heap.get?_push_of_some { cls := .type "dict", data := .dict #[] } q) (Nat.le_refl _) (NdP.obj (P := X.prog) (H := upd H s.heap.objs.size (.ext (NdP X.w s.heap.objs.size []))) n0)
  have hP : PPs X pos [some a] [b] [(ta, tb)] := pps_cons ha hb pps_nil
  refine (arm_eval_Dict [some a] [b] pos X.env) ▸ ?_
  have sh : (evalEachOpt [some a] X.env).zip (List.map (fun v => do let x ← v; standAt pos; pure x) (evalEach [b] X.env)) = List.map (fun p => (some p.fst, p.snd)) (pairTrees [some a] [b] X.env pos) := rfl
  rw [sh, dictDisplay_pairs (pairTrees [some a] [b] X.env pos) (fun z => nomatch z) (by show (1 : Nat) < 17; decide)]
  refine wpAny_bind (wpAny_standAt (wpAny_bind (wpAny_subDictH (knd := nestedKind X.prog X.w) (by show X.A.units + 8 < cLine; omega) (by show (1 : Nat) ≤ 15; decide) (thn (hP.run pins _ σ _ (fun ps H2 => match ps with
    | [(x, y)] => H2 s.heap.objs.size = some (.ext (NdP X.w s.heap.objs.size [])) ∧ ∃ (b : Addr) (k : NestedKey), x = .ref b ∧ IsNk X.K H2 k b ∧ Q (.ref s.heap.objs.size) (upd H2 s.heap.objs.size (.ext (NdP X.w s.heap.objs.size [(k, b, y)])))
    | _ => False) I1 ?_) fun ws s2 h => ?_))))
  · exact q s.heap.objs.size hn
  · obtain ⟨ps, H2, I2, rel, h⟩ := h
    match ps, h with
    | [(x, y)], ⟨hp, bb, k, ex, hk, q2⟩ =>
      subst ex
      cases rel with
      | cons r0 rr =>
        cases rr
        rename_i w
        obtain ⟨r1, r2⟩ := r0
        obtain ⟨key, val⟩ := w
        obtain rfl : key = Value.ref bb := r1
        obtain ⟨ys, p, d, hs, _⟩ := nd_dict I2 ⟨.inl hp, (fun _ z => nomatch z)⟩
        cases p
        refine ⟨[(k, bb, val)], ⟨rfl, rfl, nk_key I2 hk, trivial⟩, d, fun h' tk d' sb => wpAny_pure ?_⟩
        have n := nd_of (X := X) (.cons ⟨rfl, rfl, r2⟩ .nil : Paired RelX [(k, bb, y)] [(k, bb, val)]) d' hs (by show (1 : Nat) ≤ sizeLine; decide)
        refine ⟨.ref s.heap.objs.size, _, d_write (t' := tk) I2 (by rw [hp]; exact trivial) sb ?_ n.obj, rfl, q2⟩
        obtain ⟨o, _, _, h1, _⟩ := d'
        exact ⟨o, h1⟩
/-! ### a walk -/
def Itnd (w : World) (d : Addr) (o : Obj) (xs : List (NestedKey × Addr × V)) : It :=
  ⟨fun i H => H d = some (.frz o (.ext (NdP w d xs))) ∧ i < xs.length, fun i H x H' => H' = H ∧ ∃ z, xs[i]? = some z ∧ x = .ref z.2.1, fun i H => H d = some (.frz o (.ext (NdP w d xs))) ∧ xs.length ≤ i⟩
theorem nd_frz {X : Cx} {pins : List (Addr × Obj)} {σ : L2.St} {H : Hp} {s : Shared} (I : L2.Inv X pins σ H s) {d : Addr} {o : Obj} {xs : List (NestedKey × Addr × V)} (hd : H d = some (.frz o (.ext (NdP X.w d xs)))) : (d == sysModules) = false ∧ s.heap.get? d = some o ∧ o.ExactDict ∧ ∃ es ep ys, o.data = .dict es ep ∧ es.size = xs.length ∧ Paired RelX xs ys ∧ ∀ (i : Nat) y, ys[i]? = some y → ∃ en : DictEntry, es[i]? = some en ∧ en.key = .ref y.2.1 := by
  obtain ⟨ho, ⟨o', es, ep, ys, h1, h2, h3, h4, h5, h6, h7, h8⟩, _⟩ := I.hok d _ hd
  rw [h1] at ho
  cases ho
  have hl : es.size = xs.length := by
    have := congrArg List.length h4
    rw [List.length_map, ← h5.length] at this
    simpa using this
  refine ⟨h7, h1, h2, es, ep, ys, h3, hl, h5, fun i y hy => ?_⟩
  have e1 : es.toList[i]? = some { hash := NestedKey.hash X.w y.1, key := .ref y.2.1, val := y.2.2 } := by rw [h4, List.getElem?_map, hy]; rfl
  exact ⟨_, by simpa using e1, rfl⟩
theorem turn_nd {P : Program} {w : World} {K : PySem.W.Frag} {tg : Expr} {d : Addr} {o : Obj} {es : Array DictEntry} {ep : Nat} {xs : List (NestedKey × Addr × V)} (it : Addr) (hod : o.data = .dict es ep) : Turn P w K tg (Itnd w d o xs) [it] it fun i h => h.IsKeyIter it d i xs.length ep where
  mem := List.mem_cons_self
  obj := by
    intro i h st b hb
    obtain rfl : b = it := by simpa using hb
    obtain ⟨oi, e, c, dd⟩ := st
    exact ⟨oi, e, fun v z => by rw [dd] at z; cases z⟩
  keep := by
    intro i h h' st k
    exact Heap.IsKeyIter.at st fun oi e => k it List.mem_cons_self oi e
  item := by
    intro X hP hw hK hc i pins s σ H E I hf st hg
    subst hP hw hK
    obtain ⟨hd, hi⟩ := hg
    obtain ⟨f0, f1, f2, f3, f4, f5⟩ := hf it List.mem_cons_self
    obtain ⟨hs, hgd, hx, es', ep', ys, hdt, hsz, hp, hk⟩ := nd_frz I hd
    rw [hod] at hdt
    cases hdt
    obtain ⟨y, hy⟩ : ∃ y, ys[i]? = some y := ⟨_, List.getElem?_eq_getElem (by rw [← hp.length]; exact hi)⟩
    obtain ⟨x, hx2, rx⟩ := relx_get hp hy
    obtain ⟨en, hen, hkey⟩ := hk i y hy
    refine next_key_item st hgd hod hsz hen fun h' st' sb => ?_
    have I1 := I.turned (t' := s.toks) (fun b ob hb e => (sb.2 b hb).trans e) f0 f1 f3 f4 f5
    obtain ⟨oi, e, c, dd⟩ := id st'
    refine ⟨_, rfl, go_of e c dd (by decide) ⟨.ref x.2.1, H, I1, ?_, ⟨rfl, x, hx2, rfl⟩, st', fun b hb => (hf b hb).1⟩⟩
    rw [hkey, rx.2.1]
    rfl
  done := by
    intro X hP hw hK hc i pins s σ H E I hf st hg
    subst hP hw hK
    obtain ⟨hd, hi⟩ := hg
    obtain ⟨f0, f1, f2, f3, f4, f5⟩ := hf it List.mem_cons_self
    obtain ⟨hs, hgd, hx, es', ep', ys, hdt, hsz, hp, hk⟩ := nd_frz I hd
    rw [hod] at hdt
    cases hdt
    exact next_key_end (I.ok.hd hc) st hgd hod hsz hi fun h' eb => ⟨rfl, I.turned (t' := s.toks) (fun b ob hb e => eb b ob hb e) f0 f1 f3 f4 f5⟩
  self := fun A i s Q E st h => wpAny_pyIter_keyiter st h
def iKeysN (w : World) (td : TE) : TI := fun σ H R => td σ H fun x H1 => ∃ (d : Addr) (o : Obj) (xs : List (NestedKey × Addr × V)), x = .ref d ∧ H1 d = some (.frz o (.ext (NdP w d xs))) ∧ R (Itnd w d o xs) H1
theorem pi_keysN {X : Cx} {tg e : Expr} {td : TE} (he : PE X e td) : PI X tg e (iKeysN X.w td) := by
  refine ⟨fun pins s σ H R I h => thn (he.run pins s σ H _ I h) fun u s1 h1 => ?_⟩
  obtain ⟨x, H1, I1, rx, d, o, xs, rfl, hd, q⟩ := h1
  obtain rfl : u = Value.ref d := rx
  obtain ⟨hs, hgd, hx, es, ep, ys, hdt, hsz, hp, hk⟩ := nd_frz I1 hd
  refine iter_keys hs hgd hx hdt (pi_one I1 _ (turn_nd s1.heap.objs.size hdt) ⟨_, Heap.get?_push_size s1.heap rfl, rfl, ?_⟩ q)
  rw [← hsz]
  rfl
end MP
/-! MPSem: a small deterministic reading of Python: deep values, a store of lists, what a text of the fragment does (by wishes). -/
namespace MP
open PySem PySem.Spec PyProof.Rows L2

/-- values: tuples are deep, lists stand in the store -/
inductive D where
  | non | bl (b : Bool) | int (i : Int) | str (x : Str) | tup (xs : List D) | ref (a : Nat)
  /-- a list that is read alone (the script) -/
  | klst (xs : List D)
  /-- a def, by its name at the top -/
  | fn (x : Str)
  /-- an exception that is being handled: where it stands, its dict, its field -/
  | exc (a dd : Addr) (f : Str) (v : D)

/-- what stands in the store -/
inductive O where
  | lst (xs : List D)
  /-- a dict; is it being walked? -/
  | dk (fz : Bool) (kvs : List (Key × D))
  /-- an instance of class number c, its attributes -/
  | ins (c : Nat) (fs : List (Str × D))
  /-- a dict whose keys are tuples, nested; is it being walked? -/
  | nd (fz : Bool) (kvs : List (NestedKey × D))
abbrev Sto := List O
abbrev Env := List (Option D)
/-- an exception: its class by number, its field -/
structure Ex where
  c : Nat
  f : D

inductive Bop where
  | add | sub | mul | fdiv | mod | pow | shl | shr | band | bor | bxor
inductive Cop where
  | eq | ne | lt | le | gt | ge | isin | notin | isN | notN
inductive Bl where
  | len | abs | max | min | sum | any | all | int | bool | list | tuple | dict | str | sorted
inductive Mt where
  | append | pop | popAt | bits | extend | alnum | split | insert
  deriving DecidableEq
inductive Ty where
  | int | bool | str | tuple | list | dict
inductive Tg where
  | nm (i : Nat)
  | tp (ts : List Tg)

mutual
inductive MX where
  | var (i : Nat) | int (i : Int) | bl (b : Bool) | non | str (x : Str)
  | tup (es : MXs) | lst (es : MXs)
  | bin (op : Bop) (a b : MX) | neg (a : MX)
  | cmp (op : Cop) (a b : MX) | chain (op op' : Cop) (a b c : MX)
  | and (a b : MX) | or (a b : MX) | not (a : MX) | ite (c a b : MX)
  | ix (a i : MX) | sl (a : MX) (lo hi : MXo)
  | call (f : Nat) (es : MXs) | blt (b : Bl) (es : MXs) | isi (a : MX) (t : Ty)
  | listRg (es : MXs) | tupRg (es : MXs)
  | meth (m : Mt) (o : MX) (es : MXs)
  | comp (vs : List Nat) (t : Tg) (it : MI) (ifs : MXs) (elt : MX)
  | dnew | dget (o k : MX) | dget2 (o k x : MX)
  | fld (o : MX) (f : Str) | make (cl : Nat) (fs : List Str) (es : MXs)
  | fnv (x : Str) | callv (i : Nat) (fs : List (Str × Nat)) (es : MXs)
  /-- {k: v} -/
  | ddis1 (k v : MX)
  /-- {}, {k: v}, [e for t in d if ..] of a dict of nested tuples -/
  | dnewN | ddisN (k v : MX) | compN (vs : List Nat) (t : Tg) (i : Nat) (ifs : MXs) (elt : MX)
  /-- list(o.keys()); a comprehension over a dict that a name holds -/
  | keysOf (o : MX) | compD (vs : List Nat) (t : Tg) (i : Nat) (ifs : MXs) (elt : MX)
  /-- one of two readings -/
  | orX (a b : MX)
  /-- what a name of the module holds -/
  | cst (d : D)
inductive MXs where
  | nil | cons (e : MX) (es : MXs)
inductive MXo where
  | no | so (e : MX)
inductive MI where
  | seq (e : MX) | rng (es : MXs) | enum (e : MX) | rngD (es : MXs) | zip (a b : MX)
end

inductive Lt where
  | tg (t : Tg)
  | ix (o i : MX)
  | fld (o : MX) (f : Str)
mutual
inductive MS where
  | asg (t : Lt) (e : MX) | ex (e : MX) | iff (c : MX) (a b : MSs) | whl (c : MX) (b : MSs)
  | for_ (t : Tg) (it : MI) (b : MSs) | ret (e : MX) | ret0 | brk | cnt | pas
  /-- for .. in a dict that a name holds -/
  | forD (t : Tg) (i : Nat) (b : MSs)
  /-- raise C(e), C by its number -/
  | rais (cl : Nat) (e : MX)
  /-- try: b, except one of these classes (their fields beside them) as slot i: s -/
  | tri (b : MSs) (i : Nat) (ok : List (Nat × Str)) (s : MSs)
inductive MSs where
  | nil | cons (s : MS) (ss : MSs)
end

/-! ### values -/
abbrev KD := D → Sto → Prop
abbrev CallT := Nat → List D → Sto → KD → (Ex → Sto → Prop) → Prop

def exIs : Nat := 1000001
def exFld : Nat := 1000002
def exLev : Nat := 1000003
def lstOf (S : Sto) (a : Nat) : Option (List D) :=
  match S[a]? with
  | some (.lst xs) => some xs
  | _ => none
def keyOf : D → Option Key
  | .int i => some (.inl i)
  | .str x => some (.inr x)
  | _ => none
def keyD : Key → D
  | .inl i => .int i
  | .inr x => .str x
section
variable {κ : Type} [DecidableEq κ]
def dGet (kvs : List (κ × D)) (k : κ) : Option D := (kvs.find? fun kv => decide (kv.1 = k)).map (·.2)
def dPut (kvs : List (κ × D)) (k : κ) (v : D) : List (κ × D) :=
  if (kvs.any fun kv => decide (kv.1 = k)) = true then kvs.map (fun kv => if kv.1 = k then (kv.1, v) else kv) else kvs ++ [(k, v)]
end
/-! ### nested tuples as keys -/
mutual
def nkOf : D → Option NestedKey
  | .non => some .none
  | .int i => some (.num i)
  | .str x => some (.text x)
  | .tup xs => (nkOfs xs).map .tup
  | _ => none
def nkOfs : List D → Option (List NestedKey)
  | [] => some []
  | x :: r => match nkOf x, nkOfs r with
    | some k, some ks => some (k :: ks)
    | _, _ => none
end
mutual
def nkD : NestedKey → D
  | .none => .non
  | .num i => .int i
  | .text x => .str x
  | .tup ks => .tup (nkDs ks)
def nkDs : List NestedKey → List D
  | [] => []
  | k :: r => nkD k :: nkDs r
end
mutual
theorem nkD_of : ∀ {d : D} {k : NestedKey}, nkOf d = some k → nkD k = d
  | .non, k, h => by simp only [nkOf, Option.some.injEq] at h; subst h; rfl
  | .int i, k, h => by simp only [nkOf, Option.some.injEq] at h; subst h; rfl
  | .str i, k, h => by simp only [nkOf, Option.some.injEq] at h; subst h; rfl
  | .tup xs, k, h => by
    simp only [nkOf] at h
    obtain ⟨ks, h1, rfl⟩ := Option.map_eq_some_iff.mp h
    simp only [nkD]
    rw [nkDs_of h1]
  | .bl _, k, h => by simp [nkOf] at h
  | .ref _, k, h => by simp [nkOf] at h
  | .klst _, k, h => by simp [nkOf] at h
  | .fn _, k, h => by simp [nkOf] at h
  | .exc _ _ _ _, k, h => by simp [nkOf] at h
theorem nkDs_of : ∀ {d : List D} {k : List NestedKey}, nkOfs d = some k → nkDs k = d
  | [], k, h => by simp only [nkOfs, Option.some.injEq] at h; subst h; rfl
  | x :: r, k, h => by
    simp only [nkOfs] at h
    split at h
    · rename_i a b h1 h2
      cases h
      simp only [nkDs]
      rw [nkD_of h1, nkDs_of h2]
    · cases h
end
/-- what a key must be: a tuple, no deeper than 8 -/
def ndKey : D → Option NestedKey
  | .tup xs => match nkOf (.tup xs) with
    | some k => if k.depth ≤ 8 then some k else none
    | none => none
  | _ => none
theorem ndKey_inv {d : D} {k : NestedKey} (h : ndKey d = some k) : nkD k = d ∧ k.depth ≤ 8 ∧ ∃ ks, k = .tup ks := by
  unfold ndKey at h
  split at h
  · rename_i xs
    split at h
    · rename_i k' hk
      split at h
      · cases h
        refine ⟨nkD_of hk, ‹_›, ?_⟩
        simp only [nkOf] at hk
        obtain ⟨ks, _, e⟩ := Option.map_eq_some_iff.mp hk
        exact ⟨ks, e.symm⟩
      · cases h
    · cases h
  · cases h
def dkOf (S : Sto) (a : Nat) : Option (List (Key × D)) :=
  match S[a]? with
  | some (.dk _ kvs) => some kvs
  | _ => none

def tru (S : Sto) : D → Option Bool
  | .non => some false
  | .bl b => some b
  | .int i => some (i != 0)
  | .str x => if x.length ≤ sizeLine then some (x.length != 0) else none
  | .tup xs => some (!xs.isEmpty)
  | .klst xs => some (!xs.isEmpty)
  | .fn _ => none
  | .exc _ _ _ _ => none
  | .ref a => match S[a]? with
    | some (.lst xs) => some (!xs.isEmpty)
    | _ => none
def truK (S : Sto) (v : D) (K : Bool → Prop) : Prop :=
  match tru S v with
  | some k => K k
  | none => False

mutual
inductive Pd (S : Sto) : D → PyData → Prop
  | non : Pd S .non .none
  | bl (b : Bool) : Pd S (.bl b) (.bool b)
  | int (i : Int) : Pd S (.int i) (.int i)
  | str (x : Str) : Pd S (.str x) (.str x)
  | tup {xs : List D} {ds : List PyData} : Pds S xs ds → Pd S (.tup xs) (.tuple ds)
  | ref {a : Nat} {xs : List D} {ds : List PyData} : lstOf S a = some xs → Pds S xs ds → Pd S (.ref a) (.list ds)
inductive Pds (S : Sto) : List D → List PyData → Prop
  | nil : Pds S [] []
  | cons {x : D} {xs : List D} {d : PyData} {ds : List PyData} : Pd S x d → Pds S xs ds → Pds S (x :: xs) (d :: ds)
end

def flatD : D → Bool
  | .non => true
  | .bl _ => true
  | .int _ => true
  | .str _ => true
  | _ => false
/-- == of flat ones -/
def eqF : D → D → Bool
  | .non, .non => true
  | .bl a, .bl b => a == b
  | .int a, .int b => a == b
  | .str a, .str b => a == b
  | .bl a, .int b => (if a then 1 else 0) == b
  | .int a, .bl b => a == (if b then 1 else 0)
  | _, _ => false
def inF (x : D) (ys : List D) : Bool := ys.any fun y => eqF y x

def cutD {α : Type} (xs : List α) (lo hi : Option Int) : List α := (xs.drop (HT.sIx xs.length 0 lo)).take (HT.sIx xs.length xs.length hi - HT.sIx xs.length 0 lo)
def rgD (a b : Int) : List D := (List.range (b - a).toNat).map fun i => D.int (a + (i : Nat))
/-- downwards -/
def rgDn (a b : Int) : List D := (List.range (a - b).toNat).map fun i => D.int (a - (i : Nat))

/-- a text many times -/
def repS (x : Str) (n : Nat) : Str := ⟨((List.replicate n x.cps.toList).flatten).toArray⟩
/-- a text's signs -/
def signsD (x : Str) : List D := x.cps.toList.map fun c => D.str ⟨#[c]⟩

/-! ### operators -/
def wpBin : Bop → D → D → Sto → KD → Prop
  | .add, .int i, .int j, S, Q => Q (.int (i + j)) S
  | .add, .tup xs, .tup ys, S, Q => xs.length + ys.length ≤ sizeLine ∧ Q (.tup (xs ++ ys)) S
  | .add, .str x, .str y, S, Q => x.length + y.length ≤ sizeLine ∧ Q (.str (x ++ y)) S
  | .add, .ref a, .ref b, S, Q => match S[a]?, S[b]? with
    | some (.lst xs), some (.lst ys) => xs.length + ys.length ≤ sizeLine ∧ Q (.ref S.length) (S ++ [.lst (xs ++ ys)])
    | _, _ => False
  | .sub, .int i, .int j, S, Q => Q (.int (i - j)) S
  | .mul, .int i, .int j, S, Q => IntMulOk i j ∧ Q (.int (i * j)) S
  | .mul, .str x, .int n, S, Q => (0 ≤ n ∧ n < 2 ^ 62 ∧ x.length * n.toNat ≤ sizeLine) ∧ Q (.str (repS x n.toNat)) S
  | .fdiv, .int i, .int j, S, Q => if 0 < j then j.natAbs.log2 < 9000 ∧ Q (.int (i / j)) S else CDivN i j ∧ Q (.int (i.fdiv j)) S
  | .mod, .int i, .int j, S, Q => if 0 < j then Q (.int (i % j)) S else j ≠ 0 ∧ Q (.int (i.fmod j)) S
  | .pow, .int i, .int j, S, Q => CPow i j ∧ Q (.int (i ^ j.toNat)) S
  | .shl, .int i, .int j, S, Q => CShl i j ∧ Q (.int (i * 2 ^ j.toNat)) S
  | .shr, .int i, .int j, S, Q => 0 ≤ j ∧ Q (.int (i / 2 ^ j.toNat)) S
  | .band, .int i, .int j, S, Q => Q (.int (Builtin.bitAnd i j)) S
  | .bor, .int i, .int j, S, Q => Q (.int (Builtin.bitOr i j)) S
  | .bxor, .int i, .int j, S, Q => Q (.int (Builtin.bitXor i j)) S
  | _, _, _, _, _ => False

def wpEq (neg : Bool) : D → D → Sto → KD → Prop
  | .int i, .int j, S, Q => Q (.bl (neg ^^ decide (i = j))) S
  | .str x, .str y, S, Q => Q (.bl (neg ^^ decide (x = y))) S
  | .bl x, .bl y, S, Q => Q (.bl (neg ^^ decide (x = y))) S
  | x, y, S, Q => (∃ d e, Pd S x d ∧ Pd S y e ∧ SeqAt.shaped d = true ∧ SeqAt.shaped e = true ∧ Q (.bl (neg ^^ PyData.eqv d e)) S) ∨
      ∃ a b kvs, x = .ref a ∧ y = .ref b ∧ S[a]? = some (.dk false kvs) ∧ S[b]? = some (.dk false kvs) ∧ (∀ kv ∈ kvs, flatD kv.2 = true) ∧ (kvs.map (·.1)).Nodup ∧ Q (.bl (neg ^^ true)) S
def wpIn (neg : Bool) (x : D) : D → Sto → KD → Prop
  | .tup ys, S, Q => flatD x = true ∧ ys.all flatD = true ∧ Q (.bl (neg ^^ inF x ys)) S
  | .ref a, S, Q => match S[a]? with
    | some (.lst ys) => (flatD x = true ∧ ys.all flatD = true ∧ Q (.bl (neg ^^ inF x ys)) S) ∨
        ∃ d ds, Pd S x d ∧ Pds S ys ds ∧ SeqAt.shaped d = true ∧ SeqAt.shaped (.list ds) = true ∧ Q (.bl (neg ^^ ds.any fun z => PyData.eqv z d)) S
    | some (.dk _ kvs) => match keyOf x with
      | some k => Q (.bl (neg ^^ (dGet kvs k).isSome)) S
      | none => False
    | some (.nd _ kvs) => match ndKey x with
      | some k => Q (.bl (neg ^^ (dGet kvs k).isSome)) S
      | none => False
    | _ => False
  | .str y, S, Q => match x with
    | .str z => Q (.bl (neg ^^ !(Builtin.Str.occurrences y z 0 y.length 1).isEmpty)) S
    | _ => False
  | _, _, _ => False
def wpCmp : Cop → D → D → Sto → KD → Prop
  | .eq, x, y, S, Q => wpEq false x y S Q
  | .ne, x, y, S, Q => wpEq true x y S Q
  | .lt, .int i, .int j, S, Q => Q (.bl (decide (i < j))) S
  | .le, .int i, .int j, S, Q => Q (.bl (decide (i ≤ j))) S
  | .gt, .int i, .int j, S, Q => Q (.bl (decide (j < i))) S
  | .ge, .int i, .int j, S, Q => Q (.bl (decide (j ≤ i))) S
  | .lt, .tup xs, .tup ys, S, Q => ∃ ds es, Pds S xs ds ∧ Pds S ys es ∧ PySem.W.alikeAll ds es = true ∧ (PyData.tuple ds).depth ≤ 60 ∧ Q (.bl (PySem.W.dataLt (.tuple ds) (.tuple es))) S
  | .isin, x, y, S, Q => wpIn false x y S Q
  | .notin, x, y, S, Q => wpIn true x y S Q
  | .isN, x, .non, S, Q => Q (.bl (match x with | .non => true | _ => false)) S
  | .notN, x, .non, S, Q => Q (.bl (match x with | .non => false | _ => true)) S
  | .isN, .bl a, .bl b, S, Q => Q (.bl (decide (a = b))) S
  | .notN, .bl a, .bl b, S, Q => Q (.bl (!decide (a = b))) S
  | _, _, _, _, _ => False
def ixO : O → D → Option D
  | .lst xs, .int i => atI xs i
  | .dk _ kvs, y => (keyOf y).bind fun k => dGet kvs k
  | .nd _ kvs, y => (ndKey y).bind fun k => dGet kvs k
  | _, _ => none
def wpIx : D → D → Sto → KD → Prop
  | .tup xs, .int i, S, Q => match atI xs i with
    | some v => Q v S
    | none => False
  | .klst xs, .int i, S, Q => match atI xs i with
    | some v => Q v S
    | none => False
  | .ref a, y, S, Q => match S[a]?.bind fun o => ixO o y with
    | some v => Q v S
    | none => False
  | .str x, .int i, S, Q => x.length ≤ sizeLine ∧ match atI x.cps.toList i with
    | some c => Q (.str ⟨#[c]⟩) S
    | none => False
  | _, _, _, _ => False
def wpSl : D → Option Int → Option Int → Sto → KD → Prop
  | .tup xs, lo, hi, S, Q => Q (.tup (cutD xs lo hi)) S
  | .klst xs, lo, hi, S, Q => Q (.ref S.length) (S ++ [.lst (cutD xs lo hi)])
  | .ref a, lo, hi, S, Q => match lstOf S a with
    | some xs => Q (.ref S.length) (S ++ [.lst (cutD xs lo hi)])
    | none => False
  | .str x, lo, hi, S, Q => x.length ≤ sizeLine ∧ Q (.str (cutS x lo hi)) S
  | _, _, _, _, _ => False
/-- the ints, the bools of a list -/
def intsOf : List D → Option (List Int)
  | [] => some []
  | .int i :: r => (intsOf r).map (i :: ·)
  | _ :: _ => none
def blsOf : List D → Option (List Bool)
  | [] => some []
  | .bl i :: r => (blsOf r).map (i :: ·)
  | _ :: _ => none
def zipD (xs ys : List D) : List D := (xs.zip ys).map fun p => .tup [p.1, p.2]
/-- pairs, as a dict takes them -/
def pairsOf : List D → Option (List (Key × D))
  | [] => some []
  | .tup [k, v] :: r => match keyOf k, pairsOf r with
    | some a, some ps => some ((a, v) :: ps)
    | _, _ => none
  | _ => none
def wpBlt : Bl → List D → Sto → KD → Prop
  | .len, [.tup xs], S, Q => Q (.int xs.length) S
  | .len, [.klst xs], S, Q => Q (.int xs.length) S
  | .len, [.ref a], S, Q => match S[a]? with
    | some (.lst xs) => Q (.int xs.length) S
    | some (.dk false kvs) => Q (.int kvs.length) S
    | _ => False
  | .dict, [.ref a], S, Q => match dkOf S a with
    | some kvs => Q (.ref S.length) (S ++ [.dk false kvs])
    | none => False
  | .dict, [.tup xs], S, Q => match pairsOf xs with
    | some ps => Q (.ref S.length) (S ++ [.dk false (ps.foldl (fun a p => dPut a p.1 p.2) [])])
    | none => False
  | .max, [.ref a], S, Q => match (lstOf S a).bind intsOf with
    | some ns => 0 < ns.length ∧ ∀ m, m ∈ ns → (∀ y, y ∈ ns → y ≤ m) → Q (.int m) S
    | none => False
  | .min, [.ref a], S, Q => match (lstOf S a).bind intsOf with
    | some ns => 0 < ns.length ∧ ∀ m, m ∈ ns → (∀ y, y ∈ ns → m ≤ y) → Q (.int m) S
    | none => False
  | .len, [.str x], S, Q => x.length ≤ sizeLine ∧ Q (.int x.length) S
  | .abs, [.int i], S, Q => Q (.int (if i < 0 then -i else i)) S
  | .max, [.int i, .int j], S, Q => Q (.int (if j > i then j else i)) S
  | .min, [.int i, .int j], S, Q => Q (.int (if j < i then j else i)) S
  | .sum, [.ref a], S, Q => match (lstOf S a).bind intsOf with
    | some ns => Q (.int ns.sum) S
    | none => False
  | .any, [.ref a], S, Q => match (lstOf S a).bind blsOf with
    | some bs => Q (.bl (bs.any id)) S
    | none => False
  | .all, [.ref a], S, Q => match (lstOf S a).bind blsOf with
    | some bs => Q (.bl (bs.all id)) S
    | none => False
  | .int, [.int i], S, Q => Q (.int i) S
  | .int, [.bl b], S, Q => Q (.int (if b then 1 else 0)) S
  | .bool, [.int i], S, Q => Q (.bl (i != 0)) S
  | .bool, [.bl b], S, Q => Q (.bl b) S
  | .list, [.tup xs], S, Q => Q (.ref S.length) (S ++ [.lst xs])
  | .list, [.klst xs], S, Q => Q (.ref S.length) (S ++ [.lst xs])
  | .list, [.ref a], S, Q => match lstOf S a with
    | some xs => Q (.ref S.length) (S ++ [.lst xs])
    | none => False
  | .tuple, [.tup xs], S, Q => Q (.tup xs) S
  | .tuple, [.ref a], S, Q => match lstOf S a with
    | some xs => Q (.tup xs) S
    | none => False
  | .str, [.int i], S, Q => i.natAbs.log2 < 1920 ∧ Q (.str (Str.ofString (toString i))) S
  | .sum, [.tup xs], S, Q => match intsOf xs with
    | some ns => Q (.int ns.sum) S
    | none => False
  | .sorted, [.ref a], S, Q => (∃ zs : List (D × PyData), lstOf S a = some (zs.map Prod.fst) ∧ (∀ z ∈ zs, Pd S z.1 z.2) ∧ PySem.W.AllAlike (zs.map Prod.snd) ∧ PySem.W.Sortable (zs.map Prod.snd) ∧ (∀ z ∈ zs, z.2.depth ≤ 60) ∧
        Q (.ref S.length) (S ++ [.lst ((zs.mergeSort (PySem.W.dataLe false Prod.snd)).map Prod.fst)])) ∨
      ∃ xs, lstOf S a = some xs ∧ (∀ x ∈ xs, x = .tup []) ∧ Q (.ref S.length) (S ++ [.lst xs])
  | _, _, _, _ => False
def wpMeth : Mt → D → List D → Sto → KD → Prop
  | .append, .ref a, [y], S, Q => match S[a]? with
    | some (.lst xs) => xs.length < sizeLine ∧ Q .non (S.set a (.lst (xs ++ [y])))
    | _ => False
  | .pop, .ref a, [], S, Q => match S[a]? with
    | some (.lst xs) => match xs[xs.length - 1]? with
      | some y => Q y (S.set a (.lst xs.dropLast))
      | none => False
    | _ => False
  | .popAt, .ref a, [.int i], S, Q => match S[a]? with
    | some (.lst xs) => match ixN xs.length i with
      | some k => match xs[k]? with
        | some y => (-(2 ^ 63) ≤ i ∧ i < 2 ^ 63) ∧ Q y (S.set a (.lst (xs.eraseIdx k)))
        | none => False
      | none => False
    | _ => False
  | .bits, .int i, [], S, Q => Q (.int (Builtin.Int.intBits i : Nat)) S
  | .extend, .ref a, [.ref b], S, Q => match S[a]? with
    | some (.lst xs) => match S[b]? with
      | some (.lst ys) => xs.length + ys.length ≤ sizeLine ∧ Q .non (S.set a (.lst (xs ++ ys)))
      | _ => False
    | _ => False
  | .extend, .ref a, [.tup ys], S, Q => match S[a]? with
    | some (.lst xs) => xs.length + ys.length ≤ sizeLine ∧ Q .non (S.set a (.lst (xs ++ ys)))
    | _ => False
  | .alnum, .str x, [], S, Q => Q (.bl (Txt.isalnum x)) S
  | .insert, .ref a, [.int i, y], S, Q => match S[a]? with
    | some (.lst xs) => (xs.length < sizeLine ∧ 0 ≤ i ∧ i < 2 ^ 63) ∧ Q .non (S.set a (.lst (xs.take i.toNat ++ [y] ++ xs.drop i.toNat)))
    | _ => False
  | .split, .str x, [.str y], S, Q => ((y.length == 0) = false ∧ x.length + 2 ≤ sizeLine) ∧ Q (.ref S.length) (S ++ [.lst ((Txt.split x y).map D.str)])
  | _, _, _, _, _ => False
/-- a method's receiver -/
def mtRecv : Mt → D → Sto → Prop
  | .bits, .int _, _ => True
  | .bits, _, _ => False
  | .alnum, .str _, _ => True
  | .alnum, _, _ => False
  | .split, .str _, _ => True
  | .split, _, _ => False
  | _, .ref a, S => match S[a]? with
    | some (.lst _) => True
    | _ => False
  | _, _, _ => False
def isTy : D → Ty → Sto → Option Bool
  | .int _, t, _ => some (match t with | .int => true | _ => false)
  | .bl _, t, _ => some (match t with | .int => true | .bool => true | _ => false)
  | .str _, t, _ => some (match t with | .str => true | _ => false)
  | .non, t, _ => some false
  | .tup _, t, _ => some (match t with | .tuple => true | _ => false)
  | .klst _, _, _ => none
  | .fn _, _, _ => none
  | .exc _ _ _ _, _, _ => none
  | .ref a, t, S => match S[a]? with
    | some (.lst _) => some (match t with | .list => true | _ => false)
    | some (.dk _ _) => some (match t with | .dict => true | _ => false)
    | _ => none
def wpRg : List D → Sto → (Int → Int → Sto → Prop) → Prop
  | [.int j], S, Q => Q 0 j S
  | [.int i, .int j], S, Q => Q i j S
  | _, _, _ => False
def RgB (i j : Int) : Prop := (-(2 ^ 62) ≤ i ∧ i < 2 ^ 62) ∧ -(2 ^ 62) ≤ j ∧ j < 2 ^ 62
def wpSet : D → D → D → Sto → (Sto → Prop) → Prop
  | .ref a, .int i, v, S, Q => match S[a]? with
    | some (.lst xs) => match ixN xs.length i with
      | some j => Q (S.set a (.lst (xs.set j v)))
      | none => False
    | some (.dk false kvs) => kvs.length < sizeLine ∧ Q (S.set a (.dk false (dPut kvs (.inl i) v)))
    | _ => False
  | .ref a, .str x, v, S, Q => match S[a]? with
    | some (.dk false kvs) => kvs.length < sizeLine ∧ Q (S.set a (.dk false (dPut kvs (.inr x) v)))
    | _ => False
  | .ref a, .tup ys, v, S, Q => match S[a]? with
    | some (.nd false kvs) => match ndKey (.tup ys) with
      | some k => kvs.length < sizeLine ∧ Q (S.set a (.nd false (dPut kvs k v)))
      | none => False
    | _ => False
  | _, _, _, _, _ => False

def isDk : D → Sto → Prop
  | .ref a, S => ∃ kvs, dkOf S a = some kvs
  | _, _ => False
def wpGet : D → D → D → Sto → KD → Prop
  | .ref a, y, z, S, Q => match dkOf S a, keyOf y with
    | some kvs, some k => Q ((dGet kvs k).getD z) S
    | _, _ => False
  | _, _, _, _, _ => False
def putFD (f : Str) (v : D) : List (Str × D) → List (Str × D)
  | [] => [(f, v)]
  | (g, x) :: r => if g = f then (g, v) :: r else (g, x) :: putFD f v r
def wpFld : D → Str → Sto → KD → Prop
  | .ref a, f, S, Q => match S[a]? with
    | some (.ins _ fs) => match fs.lookup f with
      | some v => Q v S
      | none => False
    | _ => False
  | _, _, _, _ => False
def wpPutF : D → Str → D → Sto → (Sto → Prop) → Prop
  | .ref a, f, v, S, Q => match S[a]? with
    | some (.ins c fs) => fs.length < 1000 ∧ Q (S.set a (.ins c (putFD f v fs)))
    | _ => False
  | _, _, _, _, _ => False
/-! ### targets -/
mutual
def asg : Tg → D → Env → Option Env
  | .nm i, v, σ => some (σ.set i (some v))
  | .tp ts, .tup xs, σ => asgs ts xs σ
  | _, _, _ => none
def asgs : List Tg → List D → Env → Option Env
  | [], [], σ => some σ
  | t :: ts, x :: xs, σ => match asg t x σ with
    | some σ' => asgs ts xs σ'
    | none => none
  | _, _, _ => none
end
def wipeE (σ : Env) : List Nat → Env
  | [] => σ
  | v :: vs => (wipeE σ vs).set v none

/-- each with its place -/
def enumD (xs : List D) : List D := xs.zipIdx.map fun x => .tup [.int (x.2 : Nat), x.1]
/-- what is walked stands still -/
def Gd (gs : List (Nat × List D)) (S : Sto) : Prop := ∀ g ∈ gs, lstOf S g.1 = some g.2

/-- a comprehension's turns -/
def wpComp (gs : List (Nat × List D)) (body : D → Sto → (Option D → Sto → Prop) → Prop) : List D → Sto → (List D → Sto → Prop) → Prop
  | [], S, Q => Gd gs S ∧ Q [] S
  | x :: r, S, Q => Gd gs S ∧ body x S fun o S1 => wpComp gs body r S1 fun ys S2 => match o with
    | some y => Q (y :: ys) S2
    | none => Q ys S2

/-! ### expressions -/
mutual
def wpE (c : CallT) : MX → (Ex → Sto → Prop) → Env → Sto → KD → Prop
  | .var i, _, σ, S, Q => match σ[i]? with
    | some (some v) => Q v S
    | _ => False
  | .int i, _, _, S, Q => Q (.int i) S
  | .bl b, _, _, S, Q => Q (.bl b) S
  | .non, _, _, S, Q => Q .non S
  | .str x, _, _, S, Q => Q (.str x) S
  | .tup es, E, σ, S, Q => wpEs c es E σ S fun vs S1 => vs.length ≤ sizeLine ∧ Q (.tup vs) S1
  | .lst es, E, σ, S, Q => wpEs c es E σ S fun vs S1 => vs.length ≤ sizeLine ∧ Q (.ref S1.length) (S1 ++ [.lst vs])
  | .bin op a b, E, σ, S, Q => wpE c a E σ S fun x S1 => wpE c b E σ S1 fun y S2 => wpBin op x y S2 Q
  | .neg a, E, σ, S, Q => wpE c a E σ S fun x S1 => match x with
    | .int i => Q (.int (-i)) S1
    | _ => False
  | .cmp op a b, E, σ, S, Q => wpE c a E σ S fun x S1 => wpE c b E σ S1 fun y S2 => wpCmp op x y S2 Q
  | .chain op op' a b d, E, σ, S, Q => wpE c a E σ S fun x S1 => wpE c b E σ S1 fun y S2 => wpCmp op x y S2 fun r S3 =>
    match r with
    | .bl true => wpE c d E σ S3 fun z S4 => wpCmp op' y z S4 fun r' S5 => match r' with
      | .bl k => Q (.bl k) S5
      | _ => False
    | .bl false => Q (.bl false) S3
    | _ => False
  | .and a b, E, σ, S, Q => wpE c a E σ S fun x S1 => truK S1 x fun k => if k = true then wpE c b E σ S1 Q else Q x S1
  | .or a b, E, σ, S, Q => wpE c a E σ S fun x S1 => truK S1 x fun k => if k = true then Q x S1 else wpE c b E σ S1 Q
  | .not a, E, σ, S, Q => wpE c a E σ S fun x S1 => truK S1 x fun k => Q (.bl (!k)) S1
  | .ite t a b, E, σ, S, Q => wpE c t E σ S fun x S1 => truK S1 x fun k => if k = true then wpE c a E σ S1 Q else wpE c b E σ S1 Q
  | .ix a i, E, σ, S, Q => wpE c a E σ S fun x S1 => wpE c i E σ S1 fun y S2 => wpIx x y S2 Q
  | .sl a lo hi, E, σ, S, Q => wpE c a E σ S fun x S1 => wpO c lo E σ S1 fun l S2 => wpO c hi E σ S2 fun h S3 => wpSl x l h S3 Q
  | .call f es, E, σ, S, Q => wpEs c es E σ S fun vs S1 => c f vs S1 Q E
  | .blt b es, E, σ, S, Q => wpEs c es E σ S fun vs S1 => wpBlt b vs S1 Q
  | .isi a t, E, σ, S, Q => wpE c a E σ S fun x S1 => match isTy x t S1 with
    | some b => Q (.bl b) S1
    | none => False
  | .listRg es, E, σ, S, Q => wpEs c es E σ S fun vs S1 => wpRg vs S1 fun i j S2 => RgOk i j ∧ Q (.ref S2.length) (S2 ++ [.lst (rgD i j)])
  | .tupRg es, E, σ, S, Q => wpEs c es E σ S fun vs S1 => wpRg vs S1 fun i j S2 => RgOk i j ∧ Q (.tup (rgD i j)) S2
  | .meth m o es, E, σ, S, Q => wpE c o E σ S fun x S1 => mtRecv m x S1 ∧ wpEs c es E σ S1 fun vs S2 => wpMeth m x vs S2 Q
  | .comp vs t it ifs elt, E, σ, S, Q => wpI c it E σ S fun xs gs S1 => xs.length ≤ sizeLine ∧
      wpComp gs (fun x S2 K => match asg t x (wipeE σ vs) with
        | some σ2 => wpIfs c ifs (fun _ _ => False) σ2 S2 fun k S3 => if k = true then wpE c elt (fun _ _ => False) σ2 S3 fun y S4 => K (some y) S4 else K none S3
        | none => False) xs S1 fun ys S2 => Q (.ref S2.length) (S2 ++ [.lst ys])
  | .dnew, _, _, S, Q => Q (.ref S.length) (S ++ [.dk false []])
  | .dget o k, E, σ, S, Q => wpE c o E σ S fun x S1 => isDk x S1 ∧ wpE c k E σ S1 fun y S2 => wpGet x y .non S2 Q
  | .dget2 o k z, E, σ, S, Q => wpE c o E σ S fun x S1 => isDk x S1 ∧ wpE c k E σ S1 fun y S2 => wpE c z E σ S2 fun v S3 => wpGet x y v S3 Q
  | .fld o f, E, σ, S, Q => wpE c o E σ S fun x S1 => wpFld x f S1 Q
  | .make cl fs es, E, σ, S, Q => c exLev [] S (fun _ S0 => wpEs c es E σ S0 fun vs S1 => vs.length = fs.length ∧ Q (.ref S1.length) (S1 ++ [.ins cl (fs.zip vs)])) fun _ _ => False
  | .fnv x, _, _, S, Q => Q (.fn x) S
  | .cst d, _, _, S, Q => Q d S
  | .orX a b, E, σ, S, Q => wpE c a E σ S Q ∨ wpE c b E σ S Q
  | .ddis1 k v, E, σ, S, Q => wpE c k E σ S fun x S1 => wpE c v E σ S1 fun y S2 => match keyOf x with
    | some a => Q (.ref S2.length) (S2 ++ [.dk false [(a, y)]])
    | none => False
  | .keysOf o, E, σ, S, Q => wpE c o E σ S fun x S1 => match x with
    | .ref a => match S1[a]? with
      | some (.dk false kvs) => Q (.ref S1.length) (S1 ++ [.lst (kvs.map fun kv => keyD kv.1)])
      | _ => False
    | _ => False
  | .dnewN, _, _, S, Q => Q (.ref S.length) (S ++ [.nd false []])
  | .ddisN k v, E, σ, S, Q => wpE c k E σ S fun x S1 => wpE c v E σ S1 fun y S2 => match ndKey x with
    | some a => Q (.ref S2.length) (S2 ++ [.nd false [(a, y)]])
    | none => False
  | .compN vs t i ifs elt, E, σ, S, Q => match σ[i]? with
    | some (some (.ref a)) => match S[a]? with
      | some (.nd false kvs) => kvs.length ≤ sizeLine ∧ wpComp [] (fun x S2 K => match asg t x (wipeE σ vs) with
        | some σ2 => wpIfs c ifs (fun _ _ => False) σ2 S2 fun k S3 => if k = true then wpE c elt (fun _ _ => False) σ2 S3 fun y S4 => K (some y) S4 else K none S3
        | none => False) (kvs.map fun kv => nkD kv.1) (S.set a (.nd true kvs)) fun ys S2 => S2[a]? = some (.nd true kvs) ∧ Q (.ref S2.length) (S2.set a (.nd false kvs) ++ [.lst ys])
      | _ => False
    | _ => False
  | .compD vs t i ifs elt, E, σ, S, Q => match σ[i]? with
    | some (some (.ref a)) => match S[a]? with
      | some (.dk false kvs) => kvs.length ≤ sizeLine ∧ wpComp [] (fun x S2 K => match asg t x (wipeE σ vs) with
        | some σ2 => wpIfs c ifs (fun _ _ => False) σ2 S2 fun k S3 => if k = true then wpE c elt (fun _ _ => False) σ2 S3 fun y S4 => K (some y) S4 else K none S3
        | none => False) (kvs.map fun kv => keyD kv.1) (S.set a (.dk true kvs)) fun ys S2 => S2[a]? = some (.dk true kvs) ∧ Q (.ref S2.length) (S2.set a (.dk false kvs) ++ [.lst ys])
      | _ => False
    | _ => False
  | .callv i fs es, E, σ, S, Q => match σ[i]? with
    | some (some (.fn x)) => match fs.lookup x with
      | some f => wpEs c es E σ S fun vs S1 => c f vs S1 Q E
      | none => False
    | _ => False
def wpEs (c : CallT) : MXs → (Ex → Sto → Prop) → Env → Sto → (List D → Sto → Prop) → Prop
  | .nil, _, _, S, Q => Q [] S
  | .cons e es, E, σ, S, Q => wpE c e E σ S fun x S1 => wpEs c es E σ S1 fun xs S2 => Q (x :: xs) S2
def wpO (c : CallT) : MXo → (Ex → Sto → Prop) → Env → Sto → (Option Int → Sto → Prop) → Prop
  | .no, _, _, S, Q => Q none S
  | .so e, E, σ, S, Q => wpE c e E σ S fun x S1 => match x with
    | .int i => Q (some i) S1
    | _ => False
/-- a clause's tests -/
def wpIfs (c : CallT) : MXs → (Ex → Sto → Prop) → Env → Sto → (Bool → Sto → Prop) → Prop
  | .nil, _, _, S, Q => Q true S
  | .cons e es, E, σ, S, Q => wpE c e E σ S fun x S1 => truK S1 x fun k => if k = true then wpIfs c es E σ S1 Q else Q false S1
def wpI (c : CallT) : MI → (Ex → Sto → Prop) → Env → Sto → (List D → List (Nat × List D) → Sto → Prop) → Prop
  | .seq e, E, σ, S, Q => wpE c e E σ S fun x S1 => match x with
    | .tup xs => Q xs [] S1
    | .klst xs => Q xs [] S1
    | .ref a => match lstOf S1 a with
      | some xs => Q xs [(a, xs)] S1
      | none => False
    | .str z => Q (signsD z) [] S1
    | _ => False
  | .rng es, E, σ, S, Q => wpEs c es E σ S fun vs S1 => wpRg vs S1 fun i j S2 => RgB i j ∧ Q (rgD i j) [] S2
  | .enum e, E, σ, S, Q => wpE c e E σ S fun x S1 => match x with
    | .tup xs => Q (enumD xs) [] S1
    | .ref a => match lstOf S1 a with
      | some xs => Q (enumD xs) [(a, xs)] S1
      | none => False
    | _ => False
  | .zip a b, E, σ, S, Q => wpE c a E σ S fun x S1 => wpE c b E σ S1 fun y S2 => match x, y with
    | .tup xs, .tup ys => Q (zipD xs ys) [] S2
    | _, _ => False
  | .rngD es, E, σ, S, Q => wpEs c es E σ S fun vs S1 => match vs with
    | [.int i, .int j, .int k] => (k = -1 ∧ RgB i j) ∧ Q (rgDn i j) [] S1
    | _ => False
end

/-! ### what is handled -/
/-- in an except suite: isinstance(n, ..) and n.f -/
def withEx (a dd : Addr) (f : Str) (x : Ex) (c : CallT) : CallT := fun g args S Q E =>
  if g = exIs then ∃ ns, args = [.exc a dd f x.f, .tup ns] ∧ Q (.bl (inF (.int x.c) ns)) S
  else if g = exFld then args = [.exc a dd f x.f, .str f] ∧ Q x.f S
  else c g args S Q E
/-! ### statements -/
structure Ends where
  nx : Env → Sto → Prop
  rt : KD
  bk : Env → Sto → Prop
  ct : Env → Sto → Prop
  ex : Ex → Env → Sto → Prop
/-- a loop's turns over items -/
def wpFor (gs : List (Nat × List D)) (body : D → Env → Sto → (Env → Sto → Prop) → Prop) (nx : Env → Sto → Prop) : List D → Env → Sto → Prop
  | [], σ, S => Gd gs S ∧ nx σ S
  | x :: r, σ, S => Gd gs S ∧ body x σ S (wpFor gs body nx r)
def wpLt (c : CallT) : Lt → (Ex → Sto → Prop) → D → Env → Sto → (Env → Sto → Prop) → Prop
  | .tg t, _, v, σ, S, Q => match asg t v σ with
    | some σ' => Q σ' S
    | none => False
  | .ix o i, E, v, σ, S, Q => wpE c o E σ S fun x S1 => wpE c i E σ S1 fun y S2 => wpSet x y v S2 fun S3 => Q σ S3
  | .fld o f, E, v, σ, S, Q => wpE c o E σ S fun x S1 => wpPutF x f v S1 fun S2 => Q σ S2
/-- the dict is free again -/
def unK (a : Nat) (kvs : List (Key × D)) (P : Env → Sto → Prop) : Env → Sto → Prop := fun σ' S' => S'[a]? = some (.dk true kvs) ∧ P σ' (S'.set a (.dk false kvs))
mutual
def wpS (c : CallT) : MS → Ends → Env → Sto → Prop
  | .asg t e, D, σ, S => wpE c e (fun x S' => D.ex x σ S') σ S fun v S1 => wpLt c t (fun x S' => D.ex x σ S') v σ S1 D.nx
  | .ex e, D, σ, S => wpE c e (fun x S' => D.ex x σ S') σ S fun _ S1 => D.nx σ S1
  | .iff t a b, D, σ, S => wpE c t (fun x S' => D.ex x σ S') σ S fun v S1 => truK S1 v fun k => if k = true then wpSs c a D σ S1 else wpSs c b D σ S1
  | .whl t b, D, σ, S => ∃ W : Nat → Env → Sto → Prop, (∃ m, W m σ S) ∧ ∀ m σ S, W m σ S →
      wpE c t (fun x S' => D.ex x σ S') σ S fun v S1 => truK S1 v fun k => if k = true then
        wpSs c b { D with nx := fun σ' S' => ∃ m', m' < m ∧ W m' σ' S', ct := fun σ' S' => ∃ m', m' < m ∧ W m' σ' S', bk := D.nx } σ S1 else D.nx σ S1
  | .for_ t it b, D, σ, S => wpI c it (fun x S' => D.ex x σ S') σ S fun xs gs S1 =>
      wpFor gs (fun x σ2 S2 K => match asg t x σ2 with
        | some σ3 => wpSs c b { D with nx := K, ct := K, bk := D.nx } σ3 S2
        | none => False) D.nx xs σ S1
  | .ret e, D, σ, S => wpE c e (fun x S' => D.ex x σ S') σ S D.rt
  | .ret0, D, _, S => D.rt .non S
  | .brk, D, σ, S => D.bk σ S
  | .cnt, D, σ, S => D.ct σ S
  | .pas, D, σ, S => D.nx σ S
  | .forD t i b, D, σ, S => match σ[i]? with
    | some (some (.ref a)) => match S[a]? with
      | some (.dk false kvs) => wpFor [] (fun x σ2 S2 K => match asg t x σ2 with
          | some σ3 => wpSs c b ⟨K, fun v S' => S'[a]? = some (.dk true kvs) ∧ D.rt v (S'.set a (.dk false kvs)), unK a kvs D.nx, K, D.ex⟩ σ3 S2
          | none => False) (unK a kvs D.nx) (kvs.map fun kv => keyD kv.1) σ (S.set a (.dk true kvs))
      | _ => False
    | _ => False
  | .rais cl e, D, σ, S => c exLev [] S (fun _ S0 => wpE c e (fun x S' => D.ex x σ S') σ S0 fun v S1 => D.ex ⟨cl, v⟩ σ S1) fun _ _ => False
  | .tri b i ok s, D, σ, S => wpSs c b { D with ex := fun x σ' S' => match ok.lookup x.c with
      | some f => ∀ a dd : Addr, wpSs (withEx a dd f x c) s ⟨fun σ2 S2 => D.nx (σ2.set i none) S2, D.rt, fun σ2 S2 => D.bk (σ2.set i none) S2, fun σ2 S2 => D.ct (σ2.set i none) S2, fun _ _ _ => False⟩ (σ'.set i (some (.exc a dd f x.f))) S'
      | none => D.ex x σ' S' } σ S
def wpSs (c : CallT) : MSs → Ends → Env → Sto → Prop
  | .nil, D, σ, S => D.nx σ S
  | .cons s ss, D, σ, S => wpS c s { D with nx := fun σ' S' => wpSs c ss D σ' S' } σ S
end

/-! ### defs -/
structure Fn where
  n : Nat
  ps : Nat
  body : MSs
abbrev Prog := List Fn
def startE (n : Nat) (args : List D) : Env := args.map some ++ List.replicate (n - args.length) none
def callM (Pg : Prog) : Nat → CallT
  | 0 => fun _ _ _ _ _ => False
  | k + 1 => fun f args S Q E => match Pg[f]? with
    | some fn => args.length = fn.ps ∧ wpSs (callM Pg k) fn.body ⟨fun _ S' => Q .non S', Q, fun _ _ => False, fun _ _ => False, fun x _ S' => E x S'⟩ (startE fn.n args) S
    | none => f = exLev ∧ 1 ≤ k ∧ args = [] ∧ Q .non S

/-! ### a weaker end -/
theorem truK_mono {S : Sto} {v : D} {K K' : Bool → Prop} (h : truK S v K) (m : ∀ k, K k → K' k) : truK S v K' := by
  unfold truK at *
  split at h
  · exact m _ h
  · exact h
theorem wpBin_mono {op : Bop} {x y : D} {S : Sto} {Q Q' : KD} (h : wpBin op x y S Q) (m : ∀ v S, Q v S → Q' v S) : wpBin op x y S Q' := by
  unfold wpBin at *
  split at h <;> first | exact m _ _ h | exact ⟨h.1, m _ _ h.2⟩ | exact h | (split at h <;> first | exact ⟨h.1, m _ _ h.2⟩ | exact h | (split <;> first | contradiction | exact ⟨h.1, m _ _ h.2⟩ | exact m _ _ h))
theorem wpEq_mono {n : Bool} {x y : D} {S : Sto} {Q Q' : KD} (h : wpEq n x y S Q) (m : ∀ v S, Q v S → Q' v S) : wpEq n x y S Q' := by
  unfold wpEq at *
  split at h <;> first | exact m _ _ h | (rcases h with ⟨d, e, a, b, c, f, q⟩ | ⟨a, b, kvs, h1, h2, h3, h4, h5, h6, q⟩; exact .inl ⟨d, e, a, b, c, f, m _ _ q⟩; exact .inr ⟨a, b, kvs, h1, h2, h3, h4, h5, h6, m _ _ q⟩)
theorem wpIn_mono {n : Bool} {x y : D} {S : Sto} {Q Q' : KD} (h : wpIn n x y S Q) (m : ∀ v S, Q v S → Q' v S) : wpIn n x y S Q' := by
  unfold wpIn at *
  split at h
  · exact ⟨h.1, h.2.1, m _ _ h.2.2⟩
  · split at h
    · rcases h with h | ⟨d, e, a, b, c, f, q⟩
      · exact .inl ⟨h.1, h.2.1, m _ _ h.2.2⟩
      · exact .inr ⟨d, e, a, b, c, f, m _ _ q⟩
    · split at h
      · exact m _ _ h
      · exact h
    · split at h
      · exact m _ _ h
      · exact h
    · exact h
  · split at h
    · exact m _ _ h
    · exact h
  · exact h
theorem wpFld_mono {x : D} {f : Str} {S : Sto} {Q Q' : KD} (h : wpFld x f S Q) (m : ∀ v S, Q v S → Q' v S) : wpFld x f S Q' := by
  unfold wpFld at *
  split at h
  · split at h
    · split at h
      · exact m _ _ h
      · exact h
    · exact h
  · exact h
theorem wpPutF_mono {x v : D} {f : Str} {S : Sto} {Q Q' : Sto → Prop} (h : wpPutF x f v S Q) (m : ∀ S, Q S → Q' S) : wpPutF x f v S Q' := by
  unfold wpPutF at *
  split at h
  · split at h
    · exact ⟨h.1, m _ h.2⟩
    · exact h
  · exact h
theorem wpGet_mono {x y z : D} {S : Sto} {Q Q' : KD} (h : wpGet x y z S Q) (m : ∀ v S, Q v S → Q' v S) : wpGet x y z S Q' := by
  unfold wpGet at *
  split at h
  · split at h
    · exact m _ _ h
    · exact h
  · exact h
theorem wpCmp_mono {op : Cop} {x y : D} {S : Sto} {Q Q' : KD} (h : wpCmp op x y S Q) (m : ∀ v S, Q v S → Q' v S) : wpCmp op x y S Q' := by
  unfold wpCmp at *
  split at h <;> first | exact m _ _ h | exact wpEq_mono h m | exact wpIn_mono h m | exact h | (obtain ⟨ds, es, h1, h2, h3, h4, h⟩ := h; exact ⟨ds, es, h1, h2, h3, h4, m _ _ h⟩)
theorem wpIx_mono {x y : D} {S : Sto} {Q Q' : KD} (h : wpIx x y S Q) (m : ∀ v S, Q v S → Q' v S) : wpIx x y S Q' := by
  unfold wpIx at *
  split at h
  · split at h
    · exact m _ _ h
    · exact h
  · split at h
    · exact m _ _ h
    · exact h
  · split at h
    · exact m _ _ h
    · exact h
  · refine ⟨h.1, ?_⟩
    have h2 := h.2
    split at h2
    · exact m _ _ h2
    · exact h2
  · exact h
theorem wpSl_mono {x : D} {lo hi : Option Int} {S : Sto} {Q Q' : KD} (h : wpSl x lo hi S Q) (m : ∀ v S, Q v S → Q' v S) : wpSl x lo hi S Q' := by
  unfold wpSl at *
  split at h <;> first | exact m _ _ h | exact h | exact ⟨h.1, m _ _ h.2⟩ | (split at h <;> first | exact m _ _ h | exact h)
theorem wpBlt_mono {b : Bl} {xs : List D} {S : Sto} {Q Q' : KD} (h : wpBlt b xs S Q) (m : ∀ v S, Q v S → Q' v S) : wpBlt b xs S Q' := by
  unfold wpBlt at *
  split at h <;> first | exact m _ _ h | exact ⟨h.1, m _ _ h.2⟩ | exact h | (split at h <;> first | exact m _ _ h | exact h | exact ⟨h.1, fun k a b => m _ _ (h.2 k a b)⟩) | (rcases h with ⟨zs, h1, h2, h3, h4, h5, h⟩ | ⟨xs, h1, h2, h⟩; exact .inl ⟨zs, h1, h2, h3, h4, h5, m _ _ h⟩; exact .inr ⟨xs, h1, h2, m _ _ h⟩)
theorem wpMeth_mono {mt : Mt} {x : D} {xs : List D} {S : Sto} {Q Q' : KD} (h : wpMeth mt x xs S Q) (m : ∀ v S, Q v S → Q' v S) : wpMeth mt x xs S Q' := by
  unfold wpMeth at *
  split at h
  · split at h
    · exact ⟨h.1, m _ _ h.2⟩
    · exact h
  · split at h
    · split at h
      · exact m _ _ h
      · exact h
    · exact h
  · split at h
    · split at h
      · split at h
        · exact ⟨h.1, m _ _ h.2⟩
        · exact h
      · exact h
    · exact h
  · exact m _ _ h
  · split at h
    · split at h
      · exact ⟨h.1, m _ _ h.2⟩
      · exact h
    · exact h
  · split at h
    · exact ⟨h.1, m _ _ h.2⟩
    · exact h
  · exact m _ _ h
  · split at h
    · exact ⟨h.1, m _ _ h.2⟩
    · exact h
  · exact ⟨h.1, m _ _ h.2⟩
  · exact h
theorem wpRg_mono {xs : List D} {S : Sto} {Q Q' : Int → Int → Sto → Prop} (h : wpRg xs S Q) (m : ∀ i j S, Q i j S → Q' i j S) : wpRg xs S Q' := by
  unfold wpRg at *
  split at h <;> first | exact m _ _ _ h | exact h
theorem wpSet_mono {o i v : D} {S : Sto} {Q Q' : Sto → Prop} (h : wpSet o i v S Q) (m : ∀ S, Q S → Q' S) : wpSet o i v S Q' := by
  unfold wpSet at *
  split at h
  · split at h
    · split at h
      · exact m _ h
      · exact h
    · exact ⟨h.1, m _ h.2⟩
    · exact h
  · split at h
    · exact ⟨h.1, m _ h.2⟩
    · exact h
  · split at h
    · split at h
      · exact ⟨h.1, m _ h.2⟩
      · exact h
    · exact h
  · exact h
theorem wpComp_mono {gs : List (Nat × List D)} {body body' : D → Sto → (Option D → Sto → Prop) → Prop} (mb : ∀ x S K K', body x S K → (∀ o S, K o S → K' o S) → body' x S K') :
    ∀ {xs : List D} {S : Sto} {Q Q' : List D → Sto → Prop}, wpComp gs body xs S Q → (∀ v S, Q v S → Q' v S) → wpComp gs body' xs S Q'
  | [], _, _, _, h, m => ⟨h.1, m _ _ h.2⟩
  | x :: r, _, _, _, h, m => ⟨h.1, mb _ _ _ _ h.2 fun o S1 h1 => wpComp_mono mb h1 fun ys S2 q => by
      cases o with
      | none => exact m _ _ q
      | some y => exact m _ _ q⟩
theorem wpFor_mono {gs : List (Nat × List D)} {body body' : D → Env → Sto → (Env → Sto → Prop) → Prop} (mb : ∀ x σ S K K', body x σ S K → (∀ σ S, K σ S → K' σ S) → body' x σ S K') {nx nx' : Env → Sto → Prop} (m : ∀ σ S, nx σ S → nx' σ S) :
    ∀ {xs : List D} {σ : Env} {S : Sto}, wpFor gs body nx xs σ S → wpFor gs body' nx' xs σ S
  | [], _, _, h => ⟨h.1, m _ _ h.2⟩
  | x :: r, _, _, h => ⟨h.1, mb _ _ _ _ _ h.2 fun σ S q => wpFor_mono mb m q⟩
/-- a def's wish, weaker -/
def CallMono (c c' : CallT) : Prop := ∀ f vs S Q Q' E E', c f vs S Q E → (∀ v S, Q v S → Q' v S) → (∀ x S, E x S → E' x S) → c' f vs S Q' E'
section
variable {c c' : CallT} (hc : CallMono c c')
include hc
mutual
theorem wpE_mono : ∀ (x : MX) {E E' : Ex → Sto → Prop} {σ : Env} {S : Sto} {Q Q' : KD}, wpE c x E σ S Q → (∀ v S, Q v S → Q' v S) → (∀ x S, E x S → E' x S) → wpE c' x E' σ S Q'
  | .var i, _, _, σ, S, Q, Q', h, m, e => by
    unfold wpE at *
    split at h
    · exact m _ _ h
    · exact h
  | .int i, _, _, σ, S, Q, Q', h, m, e => by unfold wpE at *; exact m _ _ h
  | .bl i, _, _, σ, S, Q, Q', h, m, e => by unfold wpE at *; exact m _ _ h
  | .non, _, _, σ, S, Q, Q', h, m, e => by unfold wpE at *; exact m _ _ h
  | .str i, _, _, σ, S, Q, Q', h, m, e => by unfold wpE at *; exact m _ _ h
  | .tup es, _, _, σ, S, Q, Q', h, m, e => by
    unfold wpE at *
    exact wpEs_mono es h (fun vs S1 q => ⟨q.1, m _ _ q.2⟩) e
  | .lst es, _, _, σ, S, Q, Q', h, m, e => by
    unfold wpE at *
    exact wpEs_mono es h (fun vs S1 q => ⟨q.1, m _ _ q.2⟩) e
  | .bin op a b, _, _, σ, S, Q, Q', h, m, e => by
    unfold wpE at *
    exact wpE_mono a h (fun v S1 q => wpE_mono b q (fun u S2 q => wpBin_mono q m) e) e
  | .neg a, _, _, σ, S, Q, Q', h, m, e => by
    unfold wpE at *
    refine wpE_mono a h (fun v S1 q => ?_) e
    cases v <;> first | exact m _ _ q | exact q
  | .cmp op a b, _, _, σ, S, Q, Q', h, m, e => by
    unfold wpE at *
    exact wpE_mono a h (fun v S1 q => wpE_mono b q (fun u S2 q => wpCmp_mono q m) e) e
  | .chain op op' a b d, _, _, σ, S, Q, Q', h, m, e => by
    unfold wpE at *
    refine wpE_mono a h (fun v S1 q => wpE_mono b q (fun u S2 q => wpCmp_mono q fun r S3 q => ?_) e) e
    split at q
    · refine wpE_mono d q (fun z S4 q => wpCmp_mono q fun r' S5 q => ?_) e
      split at q
      · exact m _ _ q
      · exact q
    · exact m _ _ q
    · exact q
  | .and a b, _, _, σ, S, Q, Q', h, m, e => by
    unfold wpE at *
    refine wpE_mono a h (fun v S1 q => truK_mono q fun k q => ?_) e
    cases k with
    | true => exact wpE_mono b q m e
    | false => exact m _ _ q
  | .or a b, _, _, σ, S, Q, Q', h, m, e => by
    unfold wpE at *
    refine wpE_mono a h (fun v S1 q => truK_mono q fun k q => ?_) e
    cases k with
    | false => exact wpE_mono b q m e
    | true => exact m _ _ q
  | .not a, _, _, σ, S, Q, Q', h, m, e => by
    unfold wpE at *
    exact wpE_mono a h (fun v S1 q => truK_mono q fun k q => m _ _ q) e
  | .ite t a b, _, _, σ, S, Q, Q', h, m, e => by
    unfold wpE at *
    refine wpE_mono t h (fun v S1 q => truK_mono q fun k q => ?_) e
    cases k with
    | true => exact wpE_mono a q m e
    | false => exact wpE_mono b q m e
  | .ix a i, _, _, σ, S, Q, Q', h, m, e => by
    unfold wpE at *
    exact wpE_mono a h (fun v S1 q => wpE_mono i q (fun u S2 q => wpIx_mono q m) e) e
  | .sl a lo hi, _, _, σ, S, Q, Q', h, m, e => by
    unfold wpE at *
    exact wpE_mono a h (fun v S1 q => wpO_mono lo q (fun l S2 q => wpO_mono hi q (fun u S3 q => wpSl_mono q m) e) e) e
  | .call f es, _, _, σ, S, Q, Q', h, m, e => by
    unfold wpE at *
    exact wpEs_mono es h (fun vs S1 q => hc _ _ _ _ _ _ _ q m e) e
  | .blt b es, _, _, σ, S, Q, Q', h, m, e => by
    unfold wpE at *
    exact wpEs_mono es h (fun vs S1 q => wpBlt_mono q m) e
  | .isi a t, _, _, σ, S, Q, Q', h, m, e => by
    unfold wpE at *
    refine wpE_mono a h (fun v S1 q => ?_) e
    split at q
    · exact m _ _ q
    · exact q
  | .listRg es, _, _, σ, S, Q, Q', h, m, e => by
    unfold wpE at *
    exact wpEs_mono es h (fun vs S1 q => wpRg_mono q fun i j S2 q => ⟨q.1, m _ _ q.2⟩) e
  | .tupRg es, _, _, σ, S, Q, Q', h, m, e => by
    unfold wpE at *
    exact wpEs_mono es h (fun vs S1 q => wpRg_mono q fun i j S2 q => ⟨q.1, m _ _ q.2⟩) e
  | .meth mt o es, _, _, σ, S, Q, Q', h, m, e => by
    unfold wpE at *
    exact wpE_mono o h (fun v S1 q => ⟨q.1, wpEs_mono es q.2 (fun vs S2 q => wpMeth_mono q m) e⟩) e
  | .comp vs t it ifs elt, _, _, σ, S, Q, Q', h, m, e => by
    unfold wpE at *
    refine wpI_mono it h (fun xs gs S1 q => ⟨q.1, wpComp_mono (fun x S2 K K' q mk => ?_) q.2 fun ys S2 q => m _ _ q⟩) e
    split at q
    · refine wpIfs_mono ifs q (fun k S3 q => ?_) (fun _ _ z => z)
      cases k with
      | true => exact wpE_mono elt q (fun y S4 q => mk _ _ q) (fun _ _ z => z)
      | false => exact mk _ _ q
    · exact q
  | .dnew, _, _, σ, S, Q, Q', h, m, e => by unfold wpE at *; exact m _ _ h
  | .fld o f, _, _, σ, S, Q, Q', h, m, e => by
    unfold wpE at *
    exact wpE_mono o h (fun v S1 q => wpFld_mono q m) e
  | .make cl f es, _, _, σ, S, Q, Q', h, m, e => by
    unfold wpE at *
    exact hc _ _ _ _ _ _ _ h (fun _ S0 h => wpEs_mono es h (fun vs S1 q => ⟨q.1, m _ _ q.2⟩) e) fun _ _ z => z
  | .fnv x, _, _, σ, S, Q, Q', h, m, e => by unfold wpE at *; exact m _ _ h
  | .ddis1 k v, _, _, σ, S, Q, Q', h, m, e => by
    unfold wpE at *
    refine wpE_mono k h (fun x S1 q => wpE_mono v q (fun y S2 q => ?_) e) e
    split at q
    · exact m _ _ q
    · exact q
  | .cst d, _, _, σ, S, Q, Q', h, m, e => by unfold wpE at *; exact m _ _ h
  | .orX a b, _, _, σ, S, Q, Q', h, m, e => by
    unfold wpE at *
    rcases h with h | h
    · exact .inl (wpE_mono a h m e)
    · exact .inr (wpE_mono b h m e)
  | .keysOf o, _, _, σ, S, Q, Q', h, m, e => by
    unfold wpE at *
    refine wpE_mono o h (fun v S1 q => ?_) e
    split at q
    · split at q
      · exact m _ _ q
      · exact q
    · exact q
  | .dnewN, _, _, σ, S, Q, Q', h, m, e => by unfold wpE at *; exact m _ _ h
  | .ddisN k v, _, _, σ, S, Q, Q', h, m, e => by
    unfold wpE at *
    refine wpE_mono k h (fun x S1 q => wpE_mono v q (fun y S2 q => ?_) e) e
    split at q
    · exact m _ _ q
    · exact q
  | .compN vs t i ifs elt, _, _, σ, S, Q, Q', h, m, e => by
    unfold wpE at *
    split at h
    · split at h
      · refine ⟨h.1, wpComp_mono (fun x S2 K K' q mk => ?_) h.2 fun ys S2 q => ⟨q.1, m _ _ q.2⟩⟩
        split at q
        · refine wpIfs_mono ifs q (fun k S3 q => ?_) (fun _ _ z => z)
          cases k with
          | true => exact wpE_mono elt q (fun y S4 q => mk _ _ q) (fun _ _ z => z)
          | false => exact mk _ _ q
        · exact q
      · exact h
    · exact h
  | .compD vs t i ifs elt, _, _, σ, S, Q, Q', h, m, e => by
    unfold wpE at *
    split at h
    · split at h
      · refine ⟨h.1, wpComp_mono (fun x S2 K K' q mk => ?_) h.2 fun ys S2 q => ⟨q.1, m _ _ q.2⟩⟩
        split at q
        · refine wpIfs_mono ifs q (fun k S3 q => ?_) (fun _ _ z => z)
          cases k with
          | true => exact wpE_mono elt q (fun y S4 q => mk _ _ q) (fun _ _ z => z)
          | false => exact mk _ _ q
        · exact q
      · exact h
    · exact h
  | .callv i fs es, _, _, σ, S, Q, Q', h, m, e => by
    unfold wpE at *
    split at h
    · split at h
      · exact wpEs_mono es h (fun vs S1 q => hc _ _ _ _ _ _ _ q m e) e
      · exact h
    · exact h
  | .dget o k, _, _, σ, S, Q, Q', h, m, e => by
    unfold wpE at *
    exact wpE_mono o h (fun v S1 q => ⟨q.1, wpE_mono k q.2 (fun u S2 q => wpGet_mono q m) e⟩) e
  | .dget2 o k x, _, _, σ, S, Q, Q', h, m, e => by
    unfold wpE at *
    exact wpE_mono o h (fun v S1 q => ⟨q.1, wpE_mono k q.2 (fun u S2 q => wpE_mono x q (fun w S3 q => wpGet_mono q m) e) e⟩) e
theorem wpEs_mono : ∀ (es : MXs) {E E' : Ex → Sto → Prop} {σ : Env} {S : Sto} {Q Q' : List D → Sto → Prop}, wpEs c es E σ S Q → (∀ v S, Q v S → Q' v S) → (∀ x S, E x S → E' x S) → wpEs c' es E' σ S Q'
  | .nil, _, _, σ, S, Q, Q', h, m, e => by unfold wpEs at *; exact m _ _ h
  | .cons x xs, _, _, σ, S, Q, Q', h, m, e => by
    unfold wpEs at *
    exact wpE_mono x h (fun v S1 q => wpEs_mono xs q (fun vs S2 q => m _ _ q) e) e
theorem wpO_mono : ∀ (o : MXo) {E E' : Ex → Sto → Prop} {σ : Env} {S : Sto} {Q Q' : Option Int → Sto → Prop}, wpO c o E σ S Q → (∀ v S, Q v S → Q' v S) → (∀ x S, E x S → E' x S) → wpO c' o E' σ S Q'
  | .no, _, _, σ, S, Q, Q', h, m, e => by unfold wpO at *; exact m _ _ h
  | .so x, _, _, σ, S, Q, Q', h, m, e => by
    unfold wpO at *
    refine wpE_mono x h (fun v S1 q => ?_) e
    cases v <;> first | exact m _ _ q | exact q
theorem wpIfs_mono : ∀ (es : MXs) {E E' : Ex → Sto → Prop} {σ : Env} {S : Sto} {Q Q' : Bool → Sto → Prop}, wpIfs c es E σ S Q → (∀ v S, Q v S → Q' v S) → (∀ x S, E x S → E' x S) → wpIfs c' es E' σ S Q'
  | .nil, _, _, σ, S, Q, Q', h, m, e => by unfold wpIfs at *; exact m _ _ h
  | .cons x xs, _, _, σ, S, Q, Q', h, m, e => by
    unfold wpIfs at *
    refine wpE_mono x h (fun v S1 q => truK_mono q fun k q => ?_) e
    cases k with
    | true => exact wpIfs_mono xs q m e
    | false => exact m _ _ q
theorem wpI_mono : ∀ (it : MI) {E E' : Ex → Sto → Prop} {σ : Env} {S : Sto} {Q Q' : List D → List (Nat × List D) → Sto → Prop}, wpI c it E σ S Q → (∀ v g S, Q v g S → Q' v g S) → (∀ x S, E x S → E' x S) → wpI c' it E' σ S Q'
  | .seq x, _, _, σ, S, Q, Q', h, m, e => by
    unfold wpI at *
    refine wpE_mono x h (fun v S1 q => ?_) e
    split at q
    · exact m _ _ _ q
    · exact m _ _ _ q
    · split at q
      · exact m _ _ _ q
      · exact q
    · exact m _ _ _ q
    · exact q
  | .rng es, _, _, σ, S, Q, Q', h, m, e => by
    unfold wpI at *
    exact wpEs_mono es h (fun vs S1 q => wpRg_mono q fun i j S2 q => ⟨q.1, m _ _ _ q.2⟩) e
  | .enum x, _, _, σ, S, Q, Q', h, m, e => by
    unfold wpI at *
    refine wpE_mono x h (fun v S1 q => ?_) e
    split at q
    · exact m _ _ _ q
    · split at q
      · exact m _ _ _ q
      · exact q
    · exact q
  | .zip a b, _, _, σ, S, Q, Q', h, m, e => by
    unfold wpI at *
    refine wpE_mono a h (fun x S1 q => wpE_mono b q (fun y S2 q => ?_) e) e
    split at q
    · exact m _ _ _ q
    · exact q
  | .rngD es, _, _, σ, S, Q, Q', h, m, e => by
    unfold wpI at *
    refine wpEs_mono es h (fun vs S1 q => ?_) e
    split at q
    · exact ⟨q.1, m _ _ _ q.2⟩
    · exact q
end
/-- ends that ask less -/
structure EndsLe (D D' : Ends) : Prop where
  nx : ∀ σ S, D.nx σ S → D'.nx σ S
  rt : ∀ v S, D.rt v S → D'.rt v S
  bk : ∀ σ S, D.bk σ S → D'.bk σ S
  ct : ∀ σ S, D.ct σ S → D'.ct σ S
  ex : ∀ x σ S, D.ex x σ S → D'.ex x σ S
theorem wpLt_mono (t : Lt) {E E' : Ex → Sto → Prop} {v : D} {σ : Env} {S : Sto} {Q Q' : Env → Sto → Prop} (h : wpLt c t E v σ S Q) (m : ∀ v S, Q v S → Q' v S) (e : ∀ x S, E x S → E' x S) : wpLt c' t E' v σ S Q' := by
  cases t with
  | tg t =>
    have h1 : (match asg t v σ with | some σ' => Q σ' S | none => False) := h
    show (match asg t v σ with | some σ' => Q' σ' S | none => False)
    cases ha : asg t v σ with
    | none => rw [ha] at h1; exact h1
    | some σ' => rw [ha] at h1; exact m _ _ h1
  | ix o i =>
    have h1 : wpE c o E σ S fun x S1 => wpE c i E σ S1 fun y S2 => wpSet x y v S2 fun S3 => Q σ S3 := h
    show wpE c' o E' σ S fun x S1 => wpE c' i E' σ S1 fun y S2 => wpSet x y v S2 fun S3 => Q' σ S3
    exact wpE_mono hc o h1 (fun x S1 q => wpE_mono hc i q (fun y S2 q => wpSet_mono q fun S3 q => m _ _ q) e) e
  | fld o f =>
    have h1 : wpE c o E σ S fun x S1 => wpPutF x f v S1 fun S2 => Q σ S2 := h
    show wpE c' o E' σ S fun x S1 => wpPutF x f v S1 fun S2 => Q' σ S2
    exact wpE_mono hc o h1 (fun x S1 q => wpPutF_mono q fun S3 q => m _ _ q) e
end
theorem withEx_mono {a dd : Addr} {f : Str} {x : Ex} {c c' : CallT} (hc : CallMono c c') : CallMono (withEx a dd f x c) (withEx a dd f x c') := by
  intro g vs S Q Q' E E' h m e
  unfold withEx at *
  by_cases h1 : g = exIs
  · rw [if_pos h1] at h ⊢
    obtain ⟨ns, h1, h2⟩ := h
    exact ⟨ns, h1, m _ _ h2⟩
  · rw [if_neg h1] at h ⊢
    by_cases h2 : g = exFld
    · rw [if_pos h2] at h ⊢
      exact ⟨h.1, m _ _ h.2⟩
    · rw [if_neg h2] at h ⊢
      exact hc _ _ _ _ _ _ _ h m e
mutual
theorem wpS_monoG : ∀ (s : MS) {c c' : CallT} (hc : CallMono c c') {D D' : Ends} {σ : Env} {S : Sto}, wpS c s D σ S → EndsLe D D' → wpS c' s D' σ S
  | .asg t e, c, c', hc, D, D', σ, S, h, m => by
    unfold wpS at *
    exact wpE_mono hc e h (fun v S1 q => wpLt_mono hc t q m.nx fun x S => m.ex x σ S) fun x S => m.ex x σ S
  | .ex e, c, c', hc, D, D', σ, S, h, m => by
    unfold wpS at *
    exact wpE_mono hc e h (fun v S1 q => m.nx _ _ q) fun x S => m.ex x σ S
  | .iff t a b, c, c', hc, D, D', σ, S, h, m => by
    unfold wpS at *
    refine wpE_mono hc t h (fun v S1 q => truK_mono q fun k q => ?_) fun x S => m.ex x σ S
    cases k with
    | true => exact wpSs_monoG a hc q m
    | false => exact wpSs_monoG b hc q m
  | .whl t b, c, c', hc, D, D', σ, S, h, m => by
    unfold wpS at *
    obtain ⟨W, w0, h⟩ := h
    refine ⟨W, w0, fun n σ S w => ?_⟩
    refine wpE_mono hc t (h n σ S w) (fun v S1 q => truK_mono q fun k q => ?_) fun x S => m.ex x σ S
    cases k with
    | true => exact wpSs_monoG b hc q ⟨fun _ _ z => z, m.rt, m.nx, fun _ _ z => z, m.ex⟩
    | false => exact m.nx _ _ q
  | .for_ t it b, c, c', hc, D, D', σ, S, h, m => by
    unfold wpS at *
    refine wpI_mono hc it h (fun xs gs S1 q => wpFor_mono (fun x σ2 S2 K K' q mk => ?_) m.nx q) fun x S => m.ex x σ S
    split at q
    · exact wpSs_monoG b hc q ⟨mk, m.rt, m.nx, mk, m.ex⟩
    · exact q
  | .ret e, c, c', hc, D, D', σ, S, h, m => by
    unfold wpS at *
    exact wpE_mono hc e h m.rt fun x S => m.ex x σ S
  | .ret0, c, c', hc, D, D', σ, S, h, m => by unfold wpS at *; exact m.rt _ _ h
  | .brk, c, c', hc, D, D', σ, S, h, m => by unfold wpS at *; exact m.bk _ _ h
  | .cnt, c, c', hc, D, D', σ, S, h, m => by unfold wpS at *; exact m.ct _ _ h
  | .pas, c, c', hc, D, D', σ, S, h, m => by unfold wpS at *; exact m.nx _ _ h
  | .forD t i b, c, c', hc, D, D', σ, S, h, m => by
    unfold wpS at *
    split at h
    · split at h
      · refine wpFor_mono (fun x σ2 S2 K K' q mk => ?_) (fun _ _ z => ⟨z.1, m.nx _ _ z.2⟩) h
        split at q
        · exact wpSs_monoG b hc q ⟨mk, fun _ _ z => ⟨z.1, m.rt _ _ z.2⟩, fun _ _ z => ⟨z.1, m.nx _ _ z.2⟩, mk, m.ex⟩
        · exact q
      · exact h
    · exact h
  | .rais cl e, c, c', hc, D, D', σ, S, h, m => by
    unfold wpS at *
    exact hc _ _ _ _ _ _ _ h (fun _ S0 h => wpE_mono hc e h (fun v S1 q => m.ex _ _ _ q) fun x S => m.ex x σ S) fun _ _ z => z
  | .tri b i ok s, c, c', hc, D, D', σ, S, h, m => by
    unfold wpS at *
    refine wpSs_monoG b hc h ⟨m.nx, m.rt, m.bk, m.ct, fun x σ' S' q => ?_⟩
    dsimp only at q ⊢
    split at q
    · exact fun a dd => wpSs_monoG s (withEx_mono hc) (q a dd) ⟨fun _ _ z => m.nx _ _ z, m.rt, fun _ _ z => m.bk _ _ z, fun _ _ z => m.ct _ _ z, fun _ _ _ z => z⟩
    · exact m.ex _ _ _ q
theorem wpSs_monoG : ∀ (ss : MSs) {c c' : CallT} (hc : CallMono c c') {D D' : Ends} {σ : Env} {S : Sto}, wpSs c ss D σ S → EndsLe D D' → wpSs c' ss D' σ S
  | .nil, c, c', hc, D, D', σ, S, h, m => by unfold wpSs at *; exact m.nx _ _ h
  | .cons s ss, c, c', hc, D, D', σ, S, h, m => by
    unfold wpSs at *
    exact wpS_monoG s hc h ⟨fun σ' S' q => wpSs_monoG ss hc q m, m.rt, m.bk, m.ct, m.ex⟩
end
theorem wpS_mono {c c' : CallT} (hc : CallMono c c') (s : MS) {D D' : Ends} {σ : Env} {S : Sto} (h : wpS c s D σ S) (m : EndsLe D D') : wpS c' s D' σ S := wpS_monoG s hc h m
theorem wpSs_mono {c c' : CallT} (hc : CallMono c c') (ss : MSs) {D D' : Ends} {σ : Env} {S : Sto} (h : wpSs c ss D σ S) (m : EndsLe D D') : wpSs c' ss D' σ S := wpSs_monoG ss hc h m
theorem callM_mono (Pg : Prog) : ∀ k, CallMono (callM Pg k) (callM Pg k)
  | 0 => fun _ _ _ _ _ _ _ h _ _ => h
  | k + 1 => fun f vs S Q Q' E E' h m e => by
    unfold callM at *
    cases hf : Pg[f]? with
    | none =>
      simp only [hf] at h ⊢
      exact ⟨h.1, h.2.1, h.2.2.1, m _ _ h.2.2.2⟩
    | some fn =>
      simp only [hf] at h ⊢
      exact ⟨h.1, wpSs_mono (callM_mono Pg k) _ h.2 ⟨fun _ S q => m _ S q, m, fun _ _ z => z, fun _ _ z => z, fun x _ S q => e x S q⟩⟩
end MP
/-! MPRel: how the small reading stands to the hand layer's abstract heap; operators. -/
namespace MP
open PySem PySem.Spec PyProof.Rows L2

/-- a list that nobody writes: known, or of the written part -/
def SqF (K : PySem.W.Frag) (H : Hp) (a : Addr) (xs : List V) : Prop :=
  (∃ o, H a = some (.frz o (.lst xs))) ∨ ∃ (o : Obj) (its : Array Value) (n : Nat), K.lookup a = some o ∧ o.cls = .type "list" ∧ o.dict = none ∧ o.data = .seq its n ∧ its.size ≤ sizeLine ∧ Vals xs its.toList
theorem SqF.l {K : PySem.W.Frag} {H : Hp} {a : Addr} {xs : List V} (h : SqF K H a xs) : SqL K H a xs := by
  rcases h with ⟨o, h⟩ | h
  · exact .inl (.inr ⟨o, h⟩)
  · exact .inr h
/-- classes by number: where the class stands, an exception's field -/
structure Tbl where
  cl : Nat → Option (Addr × Option Str)
  w : World
instance : CoeFun Tbl fun _ => Nat → Option (Addr × Option Str) := ⟨Tbl.cl⟩
section
variable (T : Tbl) (K : PySem.W.Frag)
mutual
inductive RD (ρ : Nat → Addr) (n : Nat) (H : Hp) : D → V → Prop
  | non : RD ρ n H .non .non
  | bl (b : Bool) : RD ρ n H (.bl b) (.bl b)
  | int (i : Int) : RD ρ n H (.int i) (.int i)
  | str (x : Str) : RD ρ n H (.str x) (.str x)
  | tup {xs : List D} {p : Addr} {vs : List V} : SqN K H p vs → RDs ρ n H xs vs → RD ρ n H (.tup xs) (.ref p)
  | ref {a : Nat} : a < n → RD ρ n H (.ref a) (.ref (ρ a))
  | klst {xs : List D} {p : Addr} {vs : List V} : SqF K H p vs → RDs ρ n H xs vs → RD ρ n H (.klst xs) (.ref p)
  | fn {x : Str} {p : Addr} : PySem.W.nsIn K mainGlobals x = some (some (.ref p)) → RD ρ n H (.fn x) (.ref p)
  | exc {a dd : Addr} {f : Str} {x : D} {v : V} : H dd = some (.xd [(f, v)]) → RD ρ n H x v → RD ρ n H (.exc a dd f x) (.ref a)
inductive RDs (ρ : Nat → Addr) (n : Nat) (H : Hp) : List D → List V → Prop
  | nil : RDs ρ n H [] []
  | cons {x : D} {xs : List D} {v : V} {vs : List V} : RD ρ n H x v → RDs ρ n H xs vs → RDs ρ n H (x :: xs) (v :: vs)
end
/-- later: more is laid, tuples stay -/
structure Ext (ρ : Nat → Addr) (n : Nat) (H : Hp) (ρ' : Nat → Addr) (n' : Nat) (H' : Hp) : Prop where
  le : n ≤ n'
  ag : ∀ a, a < n → ρ' a = ρ a
  tp : ∀ p xs, SqN K H p xs → SqN K H' p xs
  fz : ∀ p xs, SqF K H p xs → SqF K H' p xs
  fr : ∀ p o, H p = some o → (∀ a, a < n → ρ a ≠ p) → H' p = some o
  nw : ∀ a, n ≤ a → a < n' → H (ρ' a) = none
  th : ∀ p, H' p = none → H p = none
  ow : ∀ p q, H p = some (.own q) → H' p = some (.own q)
  fk : ∀ p o vs, H p = some (.frz o (.dK vs)) → H' p = some (.frz o (.dK vs))
  xd : ∀ p fs, H p = some (.xd fs) → H' p = some (.xd fs)
  fe : ∀ p o φ, H p = some (.frz o (.ext φ)) → H' p = some (.frz o (.ext φ))
def RO (ρ : Nat → Addr) (n : Nat) (H : Hp) : O → Addr → Prop
  | .lst xs, p => ∃ vs, H p = some (.lst vs) ∧ RDs K ρ n H xs vs
  | .dk false kvs, p => ∃ vs : List (Key × V), H p = some (.dK vs) ∧ kvs.map Prod.fst = vs.map Prod.fst ∧ RDs K ρ n H (kvs.map Prod.snd) (vs.map Prod.snd)
  | .dk true kvs, p => ∃ (o : Obj) (vs : List (Key × V)), H p = some (.frz o (.dK vs)) ∧ kvs.map Prod.fst = vs.map Prod.fst ∧ RDs K ρ n H (kvs.map Prod.snd) (vs.map Prod.snd)
  | .nd false kvs, p => ∃ xs : List (NestedKey × Addr × V), H p = some (.ext (NdP T.w p xs)) ∧ kvs.map Prod.fst = xs.map Prod.fst ∧ RDs K ρ n H (kvs.map fun kv => nkD kv.1) (xs.map fun x => V.ref x.2.1) ∧ RDs K ρ n H (kvs.map Prod.snd) (xs.map fun x => x.2.2) ∧ ∀ kv ∈ kvs, kv.1.depth ≤ 8 ∧ ∃ ks, kv.1 = .tup ks
  | .nd true kvs, p => ∃ (o : Obj) (xs : List (NestedKey × Addr × V)), H p = some (.frz o (.ext (NdP T.w p xs))) ∧ kvs.map Prod.fst = xs.map Prod.fst ∧ RDs K ρ n H (kvs.map fun kv => nkD kv.1) (xs.map fun x => V.ref x.2.1) ∧ RDs K ρ n H (kvs.map Prod.snd) (xs.map fun x => x.2.2) ∧ ∀ kv ∈ kvs, kv.1.depth ≤ 8 ∧ ∃ ks, kv.1 = .tup ks
  | .ins c fs, p => ∃ (C : Addr) (dx : Addr) (vs : List (Str × V)), T c = some (C, none) ∧ H p = some (.ins C dx vs) ∧ H dx = some (.own p) ∧ fs.map Prod.fst = vs.map Prod.fst ∧ RDs K ρ n H (fs.map Prod.snd) (vs.map Prod.snd)
/-- what the store's things are; all but tuples, locked lists, instances' dicts -/
def Wr : HO → Prop
  | .lst _ => True
  | .dK _ => True
  | .frz _ (.dK _) => True
  | .frz _ (.ext _) => True
  | .ext _ => True
  | .ins _ _ _ => True
  | _ => False
/-- .. what is not locked -/
def Wn : HO → Prop
  | .lst _ => True
  | .dK _ => True
  | .ext _ => True
  | .ins _ _ _ => True
  | _ => False
structure Wd (ρ : Nat → Addr) (S : Sto) (H : Hp) : Prop where
  ob : ∀ a o, S[a]? = some o → RO T K ρ S.length H o (ρ a)
  inj : ∀ a b, a < S.length → b < S.length → ρ a = ρ b → a = b
structure ER (ρ : Nat → Addr) (n : Nat) (H : Hp) (σ : Env) (ς : L2.St) : Prop where
  len : σ.length = ς.length
  at_ : ∀ (i : Nat) (d : D), σ[i]? = some (some d) → ∃ v, ς[i]? = some (some v) ∧ RD K ρ n H d v
end

section
variable {K : PySem.W.Frag} {ρ ρ1 ρ2 : Nat → Addr} {n n1 n2 : Nat} {H H1 H2 : Hp}
theorem Ext.refl : Ext K ρ n H ρ n H := ⟨Nat.le_refl _, fun _ _ => rfl, fun _ _ h => h, fun _ _ h => h, fun _ _ h _ => h, fun _ h h' => absurd (Nat.lt_of_le_of_lt h h') (Nat.lt_irrefl _), fun _ h => h, fun _ _ h => h, fun _ _ _ h => h, fun _ _ h => h, fun _ _ _ h => h⟩
theorem Ext.trans (a : Ext K ρ n H ρ1 n1 H1) (b : Ext K ρ1 n1 H1 ρ2 n2 H2) : Ext K ρ n H ρ2 n2 H2 :=
  ⟨Nat.le_trans a.le b.le, fun x h => (b.ag x (Nat.lt_of_lt_of_le h a.le)).trans (a.ag x h), fun p xs h => b.tp p xs (a.tp p xs h), fun p xs h => b.fz p xs (a.fz p xs h),
    fun p o h i => b.fr p o (a.fr p o h i) (fun x hx => by
      by_cases hn : x < n
      · rw [a.ag x hn]
        exact i x hn
      · intro e
        have := a.nw x (Nat.le_of_not_lt hn) hx
        rw [e, h] at this
        cases this),
    (fun x h1 h2 => by
      by_cases hn : x < n1
      · rw [b.ag x hn]
        exact a.nw x h1 hn
      · exact a.th _ (b.nw x (Nat.le_of_not_lt hn) h2)),
    fun p h => a.th p (b.th p h), fun p q h => b.ow p q (a.ow p q h), fun p o vs h => b.fk p o vs (a.fk p o vs h), fun p fs h => b.xd p fs (a.xd p fs h), fun p o φ h => b.fe p o φ (a.fe p o φ h)⟩
mutual
theorem RD.ext (e : Ext K ρ n H ρ1 n1 H1) : ∀ {d : D} {v : V}, RD K ρ n H d v → RD K ρ1 n1 H1 d v
  | _, _, .non => .non
  | _, _, .bl b => .bl b
  | _, _, .int i => .int i
  | _, _, .str x => .str x
  | _, _, .tup h r => .tup (e.tp _ _ h) (RDs.ext e r)
  | _, _, .ref (a := a) h => by
    rw [← e.ag a h]
    exact .ref (Nat.lt_of_lt_of_le h e.le)
  | _, _, .klst h r => .klst (e.fz _ _ h) (RDs.ext e r)
  | _, _, .fn h => .fn h
  | _, _, .exc h r => .exc (e.xd _ _ h) (RD.ext e r)
theorem RDs.ext (e : Ext K ρ n H ρ1 n1 H1) : ∀ {d : List D} {v : List V}, RDs K ρ n H d v → RDs K ρ1 n1 H1 d v
  | _, _, .nil => .nil
  | _, _, .cons r rs => .cons (RD.ext e r) (RDs.ext e rs)
end
theorem RDs.length : ∀ {xs : List D} {vs : List V}, RDs K ρ n H xs vs → xs.length = vs.length
  | _, _, .nil => rfl
  | _, _, .cons _ r => by rw [List.length_cons, List.length_cons, r.length]
theorem RDs.get : ∀ {xs : List D} {vs : List V} {i : Nat} {x : D}, RDs K ρ n H xs vs → xs[i]? = some x → ∃ v, vs[i]? = some v ∧ RD K ρ n H x v
  | _, _, _, _, .nil, e => by simp at e
  | _, _, 0, _, .cons r _, e => by simp at e; subst e; exact ⟨_, rfl, r⟩
  | _, _, i + 1, x, .cons _ t, e => by
    obtain ⟨u, h1, h2⟩ := RDs.get (i := i) (x := x) t (by simpa using e)
    exact ⟨u, by simpa using h1, h2⟩
theorem RDs.append : ∀ {xs ys : List D} {vs us : List V}, RDs K ρ n H xs vs → RDs K ρ n H ys us → RDs K ρ n H (xs ++ ys) (vs ++ us)
  | _, _, _, _, .nil, s => s
  | _, _, _, _, .cons r t, s => .cons r (RDs.append t s)
theorem RDs.drop : ∀ {xs : List D} {vs : List V} (m : Nat), RDs K ρ n H xs vs → RDs K ρ n H (xs.drop m) (vs.drop m)
  | _, _, 0, r => r
  | _, _, _ + 1, .nil => .nil
  | _, _, m + 1, .cons _ t => RDs.drop m t
theorem RDs.take : ∀ {xs : List D} {vs : List V} (m : Nat), RDs K ρ n H xs vs → RDs K ρ n H (xs.take m) (vs.take m)
  | _, _, 0, _ => .nil
  | _, _, _ + 1, .nil => .nil
  | _, _, m + 1, .cons r t => .cons r (RDs.take m t)
theorem RDs.set {x : D} {v : V} (r : RD K ρ n H x v) : ∀ {xs : List D} {vs : List V} (i : Nat), RDs K ρ n H xs vs → RDs K ρ n H (xs.set i x) (vs.set i v)
  | _, _, _, .nil => .nil
  | _, _, 0, .cons _ t => .cons r t
  | _, _, i + 1, .cons q t => .cons q (RDs.set r i t)
theorem RDs.eraseIdx : ∀ {xs : List D} {vs : List V} (i : Nat), RDs K ρ n H xs vs → RDs K ρ n H (xs.eraseIdx i) (vs.eraseIdx i)
  | _, _, _, .nil => .nil
  | _, _, 0, .cons _ t => t
  | _, _, i + 1, .cons q t => .cons q (RDs.eraseIdx i t)
theorem RDs.dropLast {xs : List D} {vs : List V} (r : RDs K ρ n H xs vs) : RDs K ρ n H xs.dropLast vs.dropLast := by
  rw [List.dropLast_eq_take, List.dropLast_eq_take, r.length]
  exact r.take _
theorem RDs.cut {xs : List D} {vs : List V} (r : RDs K ρ n H xs vs) (lo hi : Option Int) : RDs K ρ n H (cutD xs lo hi) (cutV vs lo hi) := by
  unfold cutD cutV
  rw [← r.length]
  exact (r.drop _).take _
theorem RDs.isEmpty {xs : List D} {vs : List V} (r : RDs K ρ n H xs vs) : xs.isEmpty = vs.isEmpty := by
  cases r <;> rfl
theorem RDs.atI {xs : List D} {vs : List V} {i : Int} {x : D} (r : RDs K ρ n H xs vs) (h : atI xs i = some x) : ∃ v, L2.atI vs i = some v ∧ RD K ρ n H x v := by
  unfold L2.atI at *
  rw [← r.length]
  cases e : ixN xs.length i with
  | none => rw [e] at h; simp at h
  | some j =>
    rw [e] at h
    simp only [Option.bind_some] at h
    obtain ⟨v, h1, h2⟩ := r.get h
    exact ⟨v, h1, h2⟩
theorem RDs.rg (a b : Int) : RDs K ρ n H (rgD a b) (rgV a b) := by
  unfold rgD rgV
  generalize (List.range (b - a).toNat) = l
  induction l with
  | nil => exact .nil
  | cons x r ih => exact .cons (.int _) ih
end

section
variable {T : Tbl} {K : PySem.W.Frag} {ρ ρ1 : Nat → Addr} {n : Nat} {S S1 : Sto} {H H1 : Hp}
/-- tuples stay behind a store to what is none -/
theorem sqT_upd {p : Addr} {o : HO} (hp : ∀ o' xs, H p ≠ some (.frz o' (.tup xs))) : ∀ q xs, SqN K H q xs → SqN K (upd H p o) q xs := by
  rintro q xs (⟨o', h, hd⟩ | h)
  · have : q ≠ p := by rintro rfl; exact hp o' xs h
    exact .inl ⟨o', by rw [upd_ne this]; exact h, hd⟩
  · exact .inr h
theorem sqT_new {p : Addr} {o : HO} (hp : H p = none) : ∀ q xs, SqN K H q xs → SqN K (upd H p o) q xs :=
  sqT_upd fun o' xs => by rw [hp]; exact fun z => by simp at z
theorem sqF_upd {p : Addr} {o : HO} (hp : ∀ o' xs, H p ≠ some (.frz o' (.lst xs))) : ∀ q xs, SqF K H q xs → SqF K (upd H p o) q xs := by
  rintro q xs (⟨o', h⟩ | h)
  · have : q ≠ p := by rintro rfl; exact hp o' xs h
    exact .inl ⟨o', by rw [upd_ne this]; exact h⟩
  · exact .inr h
theorem sqF_new {p : Addr} {o : HO} (hp : H p = none) : ∀ q xs, SqF K H q xs → SqF K (upd H p o) q xs :=
  sqF_upd fun o' xs => by rw [hp]; exact fun z => by simp at z
theorem own_new {p : Addr} {o : HO} (hp : H p = none) : ∀ q x, H q = some (.own x) → upd H p o q = some (.own x) := fun q x h => by
  rw [upd_ne (ne_of_none h hp)]; exact h
theorem wr_T {p : Addr} {o u : HO} (hp : H p = some u) (w : Wr u) : ∀ q xs, SqN K H q xs → SqN K (upd H p o) q xs :=
  sqT_upd fun o' xs => by
    rw [hp]
    exact fun z => by cases z; exact w
theorem wr_F {p : Addr} {o u : HO} (hp : H p = some u) (w : Wr u) : ∀ q xs, SqF K H q xs → SqF K (upd H p o) q xs :=
  sqF_upd fun o' xs => by
    rw [hp]
    exact fun z => by cases z; exact w
theorem wr_O {p : Addr} {o u : HO} (hp : H p = some u) (w : Wr u) : ∀ q x, H q = some (.own x) → upd H p o q = some (.own x) := fun q x h => by
  have : q ≠ p := by
    rintro rfl
    rw [hp] at h
    cases h
    exact w
  rw [upd_ne this]
  exact h
theorem wr_X {p : Addr} {o u : HO} (hp : H p = some u) (w : Wr u) : ∀ q x, H q = some (.xd x) → upd H p o q = some (.xd x) := fun q x h => by
  have : q ≠ p := by
    rintro rfl
    rw [hp] at h
    cases h
    exact w
  rw [upd_ne this]
  exact h
theorem Wn.wr {u : HO} (w : Wn u) : Wr u := by
  unfold Wn at w
  split at w <;> first | trivial | exact w.elim
theorem wr_K {p : Addr} {o u : HO} (hp : H p = some u) (w : Wn u) : ∀ q x vs, H q = some (.frz x (.dK vs)) → upd H p o q = some (.frz x (.dK vs)) := fun q x vs h => by
  have : q ≠ p := by
    rintro rfl
    rw [hp] at h
    cases h
    exact w
  rw [upd_ne this]
  exact h
theorem wr_E {p : Addr} {o u : HO} (hp : H p = some u) (w : Wn u) : ∀ q x φ, H q = some (.frz x (.ext φ)) → upd H p o q = some (.frz x (.ext φ)) := fun q x φ h => by
  have : q ≠ p := by
    rintro rfl
    rw [hp] at h
    cases h
    exact w
  rw [upd_ne this]
  exact h
theorem Wd.lt (w : Wd T K ρ S H) {a : Nat} {o : O} (h : S[a]? = some o) : a < S.length := (List.getElem?_eq_some_iff.mp h).1
/-- a new tuple (or a list that the store does not know) -/
theorem upd_th {p : Addr} {o : HO} : ∀ q, upd H p o q = none → H q = none := fun q h => by
  unfold upd at h
  split at h
  · cases h
  · exact h
theorem Ext.new {p : Addr} {o : HO} (hp : H p = none) : Ext K ρ n H ρ n (upd H p o) := ⟨Nat.le_refl _, fun _ _ => rfl, sqT_new hp, sqF_new hp, fun q u h _ => by rw [upd_ne (ne_of_none h hp)]; exact h, fun _ h h' => absurd (Nat.lt_of_le_of_lt h h') (Nat.lt_irrefl _), upd_th, own_new hp, (fun q o vs h => by rw [upd_ne (ne_of_none h hp)]; exact h), (fun q fs h => by rw [upd_ne (ne_of_none h hp)]; exact h), fun q o φ h => by rw [upd_ne (ne_of_none h hp)]; exact h⟩
/-- what stands there may be written -/
theorem RO.wr {o : O} {p : Addr} (h : RO T K ρ n H o p) : ∃ u, H p = some u ∧ Wr u := by
  cases o with
  | lst xs => obtain ⟨vs, e, _⟩ := h; exact ⟨_, e, trivial⟩
  | dk fz kvs =>
    cases fz with
    | false => obtain ⟨vs, e, _⟩ := h; exact ⟨_, e, trivial⟩
    | true => obtain ⟨o, vs, e, _⟩ := h; exact ⟨_, e, trivial⟩
  | nd fz kvs =>
    cases fz with
    | false => obtain ⟨vs, e, _⟩ := h; exact ⟨_, e, trivial⟩
    | true => obtain ⟨o, vs, e, _⟩ := h; exact ⟨_, e, trivial⟩
  | ins c fs => obtain ⟨C, dx, vs, _, e, _⟩ := h; exact ⟨_, e, trivial⟩
theorem RO.ne {o : O} {p q : Addr} (h : RO T K ρ n H o p) (hq : H q = none) : p ≠ q := by
  obtain ⟨u, e, _⟩ := h.wr
  exact ne_of_none e hq
/-- the same thing, where more is known -/
theorem RO.to {o : O} {p : Addr} {n1 : Nat} (h : RO T K ρ n H o p) (rd : ∀ {xs : List D} {vs : List V}, RDs K ρ n H xs vs → RDs K ρ1 n1 H1 xs vs) (ow : ∀ q x, H q = some (.own x) → H1 q = some (.own x)) (hp : H1 p = H p) : RO T K ρ1 n1 H1 o p := by
  cases o with
  | lst xs => obtain ⟨vs, e1, r⟩ := h; exact ⟨vs, hp.trans e1, rd r⟩
  | dk fz kvs =>
    cases fz with
    | false => obtain ⟨vs, e, k, r⟩ := h; exact ⟨vs, hp.trans e, k, rd r⟩
    | true => obtain ⟨o, vs, e, k, r⟩ := h; exact ⟨o, vs, hp.trans e, k, rd r⟩
  | nd fz kvs =>
    cases fz with
    | false => obtain ⟨vs, e, k, r, r2, z⟩ := h; exact ⟨vs, hp.trans e, k, rd r, rd r2, z⟩
    | true => obtain ⟨o, vs, e, k, r, r2, z⟩ := h; exact ⟨o, vs, hp.trans e, k, rd r, rd r2, z⟩
  | ins c fs => obtain ⟨C, dx, vs, t, e, ed, k, r⟩ := h; exact ⟨C, dx, vs, t, hp.trans e, ow _ _ ed, k, rd r⟩
theorem RO.ext {o : O} {p : Addr} {n1 : Nat} (e : Ext K ρ n H ρ1 n1 H1) (h : RO T K ρ n H o p) (hp : H1 p = H p) : RO T K ρ1 n1 H1 o p := h.to (fun r => r.ext e) e.ow hp
theorem Wd.new (w : Wd T K ρ S H) {p : Addr} {o : HO} (hp : H p = none) : Wd T K ρ S (upd H p o) :=
  ⟨fun a u h => (w.ob a u h).ext (Ext.new hp) (upd_ne ((w.ob a u h).ne hp)), w.inj⟩
/-- the store's next -/
def nxt (ρ : Nat → Addr) (n : Nat) (p : Addr) : Nat → Addr := fun a => if a = n then p else ρ a
theorem Ext.alloc {p : Addr} {o : HO} (hp : H p = none) : Ext K ρ n H (nxt ρ n p) (n + 1) (upd H p o) :=
  ⟨Nat.le_succ _, fun a h => by unfold nxt; rw [if_neg (Nat.ne_of_lt h)], sqT_new hp, sqF_new hp, fun q u h _ => by rw [upd_ne (ne_of_none h hp)]; exact h, fun a h h' => by
    have e : a = n := by omega
    subst e
    unfold nxt
    rw [if_pos rfl]
    exact hp, upd_th, own_new hp, (fun q o vs h => by rw [upd_ne (ne_of_none h hp)]; exact h), (fun q fs h => by rw [upd_ne (ne_of_none h hp)]; exact h), fun q o φ h => by rw [upd_ne (ne_of_none h hp)]; exact h⟩
theorem nxt_self {p : Addr} : nxt ρ n p n = p := by unfold nxt; rw [if_pos rfl]
/-- p is laid already, and now known to the store -/
theorem RD.grow {p : Addr} {d : D} {v : V} (r : RD K ρ n H d v) : RD K (nxt ρ n p) (n + 1) H d v := by
  have ag : ∀ a, a < n → nxt ρ n p a = ρ a := fun a h => by unfold MP.nxt; rw [if_neg (Nat.ne_of_lt h)]
  exact RD.rec (motive_1 := fun d v _ => RD K (MP.nxt ρ n p) (n + 1) H d v) (motive_2 := fun d v _ => RDs K (MP.nxt ρ n p) (n + 1) H d v) .non .bl .int .str (fun h _ ih => .tup h ih) (fun {a} h => by
    have := RD.ref (K := K) (ρ := MP.nxt ρ n p) (n := n + 1) (H := H) (a := a) (Nat.lt_succ_of_lt h)
    rw [ag a h] at this
    exact this) (fun h _ ih => .klst h ih) (fun h => .fn h) (fun h _ ih => .exc h ih) .nil (fun _ _ h1 h2 => .cons h1 h2) r
theorem RDs.grow {p : Addr} : ∀ {d : List D} {v : List V}, RDs K ρ n H d v → RDs K (nxt ρ n p) (n + 1) H d v
  | _, _, .nil => .nil
  | _, _, .cons r t => .cons r.grow (RDs.grow t)
theorem RO.grow {p q : Addr} {o : O} (h : RO T K ρ n H o q) : RO T K (nxt ρ n p) (n + 1) H o q := h.to (fun r => r.grow) (fun _ _ z => z) rfl
theorem Wd.adoptO (w : Wd T K ρ S H) {p : Addr} {o : O} (r : RO T K ρ S.length H o p) (fr : ∀ a, a < S.length → ρ a ≠ p) : Wd T K (nxt ρ S.length p) (S ++ [o]) H := by
  refine ⟨fun a u h => ?_, fun a b ha hb e => ?_⟩
  · rw [List.length_append, List.length_singleton]
    by_cases hl : a < S.length
    · rw [List.getElem?_append_left hl] at h
      have e1 : nxt ρ S.length p a = ρ a := by unfold nxt; rw [if_neg (Nat.ne_of_lt hl)]
      rw [e1]
      exact (w.ob a u h).grow
    · have hlt := (List.getElem?_eq_some_iff.mp h).1
      rw [List.length_append, List.length_singleton] at hlt
      have ea : a = S.length := by omega
      subst ea
      rw [List.getElem?_append_right (Nat.le_refl _), Nat.sub_self] at h
      cases h
      rw [nxt_self]
      exact r.grow
  · rw [List.length_append, List.length_singleton] at ha hb
    unfold nxt at e
    split at e <;> split at e
    · omega
    · exact absurd e.symm (fr b (by omega))
    · exact absurd e (fr a (by omega))
    · exact w.inj a b (by omega) (by omega) e
theorem Wd.adopt (w : Wd T K ρ S H) {p : Addr} {xs : List D} {vs : List V} (hp : H p = some (.lst vs)) (fr : ∀ a, a < S.length → ρ a ≠ p) (r : RDs K ρ S.length H xs vs) : Wd T K (nxt ρ S.length p) (S ++ [O.lst xs]) H := w.adoptO ⟨vs, hp, r⟩ fr
theorem Ext.adopt {ρ0 : Nat → Addr} {n0 : Nat} {H0 : Hp} {p : Addr} (e : Ext K ρ0 n0 H0 ρ n H) (hp : H0 p = none) : Ext K ρ0 n0 H0 (nxt ρ n p) (n + 1) H :=
  ⟨Nat.le_succ_of_le e.le, fun a h => by unfold nxt; rw [if_neg (Nat.ne_of_lt (Nat.lt_of_lt_of_le h e.le))]; exact e.ag a h, e.tp, e.fz, e.fr, fun a h h' => by
    by_cases ea : a = n
    · subst ea
      rw [nxt_self]
      exact hp
    · unfold nxt
      rw [if_neg ea]
      exact e.nw a h (by omega), e.th, e.ow, e.fk, e.xd, e.fe⟩
/-- a list that the store does not know is written -/
theorem RDs.untr {p : Addr} {u o : HO} (hp : H p = some u) (wr : Wr u) {xs : List D} {us : List V} (r : RDs K ρ n H xs us) : RDs K ρ n (upd H p o) xs us :=
  RDs.rec (motive_1 := fun d v _ => RD K ρ n (upd H p o) d v) (motive_2 := fun d v _ => RDs K ρ n (upd H p o) d v) .non .bl .int .str (fun h _ ih => .tup (wr_T hp wr _ _ h) ih) (fun h => .ref h) (fun h _ ih => .klst (wr_F hp wr _ _ h) ih) (fun h => .fn h) (fun h _ ih => .exc (wr_X hp wr _ _ h) ih) .nil (fun _ _ h1 h2 => .cons h1 h2) r
theorem Wd.untr (w : Wd T K ρ S H) {p : Addr} {u o : HO} (hp : H p = some u) (wr : Wr u) (fr : ∀ a, a < S.length → ρ a ≠ p) : Wd T K ρ S (upd H p o) :=
  ⟨fun a v h => (w.ob a v h).to (fun r => r.untr hp wr) (wr_O hp wr) (upd_ne (fr a (w.lt h))), w.inj⟩
theorem Ext.untr {ρ0 : Nat → Addr} {n0 : Nat} {H0 : Hp} {p : Addr} {u o : HO} (e : Ext K ρ0 n0 H0 ρ n H) (hp : H0 p = none) (h : H p = some u) (wr : Wn u) : Ext K ρ0 n0 H0 ρ n (upd H p o) :=
  ⟨e.le, e.ag, fun q xs z => wr_T h wr.wr q xs (e.tp q xs z), fun q xs z => wr_F h wr.wr q xs (e.fz q xs z), fun q v z i => by rw [upd_ne (ne_of_none z hp)]; exact e.fr q v z i, e.nw, fun q z => e.th q (upd_th q z), fun q x z => wr_O h wr.wr q x (e.ow q x z), fun q x vs z => wr_K h wr q x vs (e.fk q x vs z), (fun q x z => wr_X h wr.wr q x (e.xd q x z)), fun q x φ z => wr_E h wr q x φ (e.fe q x φ z)⟩
theorem Wd.free (w : Wd T K ρ S H) {p : Addr} (hp : H p = none) : ∀ a, a < S.length → ρ a ≠ p := fun a h => by
  have e : S[a]? = some S[a] := List.getElem?_eq_getElem h
  exact (w.ob a _ e).ne hp
theorem Wd.allocO (w : Wd T K ρ S H) {p : Addr} {o : O} {u : HO} (hp : H p = none) (r : RO T K ρ S.length (upd H p u) o p) : Wd T K (nxt ρ S.length p) (S ++ [o]) (upd H p u) := (w.new hp).adoptO r (w.free hp)
theorem Wd.alloc (w : Wd T K ρ S H) {p : Addr} {xs : List D} {vs : List V} (hp : H p = none) (r : RDs K ρ S.length H xs vs) : Wd T K (nxt ρ S.length p) (S ++ [O.lst xs]) (upd H p (.lst vs)) :=
  w.allocO hp ⟨vs, upd_same, r.ext (Ext.new hp)⟩
theorem Ext.alloc' {p : Addr} {o : HO} {u : O} (hp : H p = none) : Ext K ρ S.length H (nxt ρ S.length p) (S ++ [u]).length (upd H p o) := by
  rw [List.length_append, List.length_singleton]
  exact Ext.alloc hp
theorem Ext.setAt {a : Nat} {u o : HO} (la : a < n) (h : H (ρ a) = some u) (wr : Wn u) : Ext K ρ n H ρ n (upd H (ρ a) o) :=
  ⟨Nat.le_refl _, fun _ _ => rfl, wr_T h wr.wr, wr_F h wr.wr, fun q o z i => by rw [upd_ne (Ne.symm (i a la))]; exact z, fun _ h h' => absurd (Nat.lt_of_le_of_lt h h') (Nat.lt_irrefl _), upd_th, wr_O h wr.wr, wr_K h wr, wr_X h wr.wr, wr_E h wr⟩
theorem Wd.lstAt (w : Wd T K ρ S H) {a : Nat} {xs : List D} (h : S[a]? = some (.lst xs)) : ∃ vs, H (ρ a) = some (.lst vs) ∧ RDs K ρ S.length H xs vs := w.ob a _ h
theorem lstOf_some {a : Nat} {xs : List D} (h : lstOf S a = some xs) : S[a]? = some (.lst xs) := by
  unfold lstOf at h
  split at h
  · rename_i e; cases h; exact e
  · cases h
theorem Wd.seqAt (w : Wd T K ρ S H) {a : Nat} {xs : List D} (h : lstOf S a = some xs) : ∃ vs, SqL K H (ρ a) vs ∧ RDs K ρ S.length H xs vs := by
  obtain ⟨vs, e1, r⟩ := w.ob a _ (lstOf_some h)
  exact ⟨vs, .inl (.inl e1), r⟩
theorem Wd.setO (w : Wd T K ρ S H) {a : Nat} {o o' : O} {u u' : HO} (h : S[a]? = some o) (e : H (ρ a) = some u) (wr : Wn u) (r : RO T K ρ S.length (upd H (ρ a) u') o' (ρ a)) : Wd T K ρ (S.set a o') (upd H (ρ a) u') := by
  have la := w.lt h
  have ex : Ext K ρ S.length H ρ S.length (upd H (ρ a) u') := Ext.setAt la e wr
  refine ⟨fun b o hb => ?_, fun b c hb hc e => ?_⟩
  · rw [List.length_set]
    by_cases hab : b = a
    · subst hab
      rw [List.getElem?_set_self la] at hb
      cases hb
      exact r
    · rw [List.getElem?_set_ne (Ne.symm hab)] at hb
      have lb := w.lt hb
      exact (w.ob b o hb).ext ex (upd_ne fun z => hab (w.inj b a lb la z))
  · rw [List.length_set] at hb hc
    exact w.inj b c hb hc e
theorem Wd.setL (w : Wd T K ρ S H) {a : Nat} {xs ys : List D} {vs ws : List V} (h : S[a]? = some (.lst xs)) (e : H (ρ a) = some (.lst vs)) (r : RDs K ρ S.length H ys ws) : Wd T K ρ (S.set a (.lst ys)) (upd H (ρ a) (.lst ws)) :=
  w.setO h e trivial ⟨ws, upd_same, r.ext (Ext.setAt (w.lt h) e trivial)⟩
theorem Ext.setO {a : Nat} {u v : HO} {o : O} (la : a < S.length) (h : H (ρ a) = some u) (wr : Wn u) : Ext K ρ S.length H ρ (S.set a o).length (upd H (ρ a) v) := by
  rw [List.length_set]
  exact Ext.setAt la h wr
theorem Ext.setL {a : Nat} {vs ws : List V} {u : O} (la : a < S.length) (h : H (ρ a) = some (.lst vs)) : Ext K ρ S.length H ρ (S.set a u).length (upd H (ρ a) (.lst ws)) := Ext.setO la h trivial

/-! ### data -/
mutual
theorem Pd.dp (w : Wd T K ρ S H) : ∀ {x : D} {d : PyData} {v : V}, Pd S x d → RD K ρ S.length H x v → Dp K H v d
  | _, _, _, .non, .non => .non
  | _, _, _, .bl b, .bl _ => .bl b
  | _, _, _, .int b, .int _ => .int b
  | _, _, _, .str b, .str _ => .str b
  | _, _, _, .tup h, .tup q r => .tup q.t (Pds.dp w h r)
  | _, _, _, .ref e h, .ref _ => by
    obtain ⟨vs, q, r⟩ := w.seqAt e
    exact .lst q (Pds.dp w h r)
theorem Pds.dp (w : Wd T K ρ S H) : ∀ {x : List D} {d : List PyData} {v : List V}, Pds S x d → RDs K ρ S.length H x v → DpAll K H v d
  | _, _, _, .nil, .nil => .nil
  | _, _, _, .cons h t, .cons r s => .cons (Pd.dp w h r) (Pds.dp w t s)
end
theorem flat_rd {x : D} {v : V} (r : RD K ρ n H x v) (h : flatD x = true) : flatV v = true := by
  cases r <;> first | rfl | cases h
theorem flat_rds : ∀ {xs : List D} {vs : List V}, RDs K ρ n H xs vs → xs.all flatD = true → vs.all flatV = true
  | _, _, .nil, _ => rfl
  | _, _, .cons r t, h => by
    rw [List.all_cons, Bool.and_eq_true] at h
    rw [List.all_cons, flat_rd r h.1, flat_rds t h.2]
    rfl
theorem eqF_rd {x y : D} {v u : V} (r : RD K ρ n H x v) (q : RD K ρ n H y u) (h : flatD x = true) (h' : flatD y = true) : eqV u v = eqF y x := by
  cases r <;> cases q <;> first | rfl | cases h | cases h' | skip
  all_goals (simp [eqV, eqF])
theorem inF_rd {x : D} {v : V} (r : RD K ρ n H x v) (h : flatD x = true) : ∀ {xs : List D} {vs : List V}, RDs K ρ n H xs vs → xs.all flatD = true → inV v vs = inF x xs
  | _, _, .nil, _ => rfl
  | _, _, .cons q t, h2 => by
    rw [List.all_cons, Bool.and_eq_true] at h2
    have ih := inF_rd r h t h2.2
    unfold inV inF at *
    rw [List.any_cons, List.any_cons, ih, eqF_rd r q h h2.1]
end

/-! ### dicts -/
section
variable {T : Tbl} {K : PySem.W.Frag} {ρ : Nat → Addr} {n : Nat} {S : Sto} {H : Hp}
theorem keyOf_kV {x : D} {k : Key} {v : V} (h : keyOf x = some k) (r : RD K ρ n H x v) : v = kV k := by
  cases r <;> first | (cases h; rfl) | cases h
theorem dGet_rd {κ : Type} [DecidableEq κ] (k : κ) : ∀ {kvs : List (κ × D)} {vs : List (κ × V)}, kvs.map Prod.fst = vs.map Prod.fst → RDs K ρ n H (kvs.map Prod.snd) (vs.map Prod.snd) → (∀ d, dGet kvs k = some d → ∃ v, valV vs k = some v ∧ RD K ρ n H d v) ∧ (dGet kvs k = none → valV vs k = none)
  | [], [], _, _ => ⟨fun d h => (by cases h), fun _ => rfl⟩
  | [], _ :: _, e, _ => by cases e
  | _ :: _, [], e, _ => by cases e
  | (k1, d1) :: r, (k2, v2) :: q, e, rd => by
    rw [List.map_cons, List.map_cons] at e rd
    injection e with e1 e2
    cases rd with
    | cons r1 r2 =>
      obtain ⟨i1, i2⟩ := dGet_rd k e2 r2
      have e1 : k1 = k2 := e1
      subst e1
      by_cases h : k1 = k
      · have a1 : dGet ((k1, d1) :: r) k = some d1 := by unfold dGet; rw [List.find?_cons_of_pos (by simp [h])]; rfl
        have a2 : valV ((k1, v2) :: q) k = some v2 := by unfold valV; rw [List.find?_cons_of_pos (by simp [h])]; rfl
        exact ⟨fun d hd => by rw [a1] at hd; cases hd; exact ⟨v2, a2, r1⟩, fun hd => by rw [a1] at hd; cases hd⟩
      · have a1 : dGet ((k1, d1) :: r) k = dGet r k := by unfold dGet; rw [List.find?_cons_of_neg (by simp [h])]
        have a2 : valV ((k1, v2) :: q) k = valV q k := by unfold valV; rw [List.find?_cons_of_neg (by simp [h])]
        rw [a1, a2]
        exact ⟨i1, i2⟩
theorem any_keys {κ : Type} [DecidableEq κ] (k : κ) : ∀ {kvs : List (κ × D)} {vs : List (κ × V)}, kvs.map Prod.fst = vs.map Prod.fst → (kvs.any fun kv => decide (kv.1 = k)) = vs.any fun kv => decide (kv.1 = k)
  | [], [], _ => rfl
  | [], _ :: _, e => by cases e
  | _ :: _, [], e => by cases e
  | (k1, d1) :: r, (k2, v2) :: q, e => by
    injection e with e1 e2
    have e1 : k1 = k2 := e1
    rw [List.any_cons, List.any_cons, any_keys k e2, e1]
theorem dPut_rd {κ : Type} [DecidableEq κ] (k : κ) {d : D} {v : V} (rv : RD K ρ n H d v) {kvs : List (κ × D)} {vs : List (κ × V)} (e : kvs.map Prod.fst = vs.map Prod.fst) (rd : RDs K ρ n H (kvs.map Prod.snd) (vs.map Prod.snd)) : (dPut kvs k d).map Prod.fst = (putK vs k v).map Prod.fst ∧ RDs K ρ n H ((dPut kvs k d).map Prod.snd) ((putK vs k v).map Prod.snd) := by
  unfold dPut putK
  rw [any_keys k e]
  split
  · have go : ∀ {kvs : List (κ × D)} {vs : List (κ × V)}, kvs.map Prod.fst = vs.map Prod.fst → RDs K ρ n H (kvs.map Prod.snd) (vs.map Prod.snd) → (kvs.map fun kv => if kv.1 = k then (kv.1, d) else kv).map Prod.fst = (vs.map fun kv => if kv.1 = k then (kv.1, v) else kv).map Prod.fst ∧ RDs K ρ n H ((kvs.map fun kv => if kv.1 = k then (kv.1, d) else kv).map Prod.snd) ((vs.map fun kv => if kv.1 = k then (kv.1, v) else kv).map Prod.snd) := by
      intro kvs
      induction kvs with
      | nil =>
        intro vs e rd
        cases vs with
        | nil => exact ⟨rfl, .nil⟩
        | cons => cases e
      | cons p r ih =>
        intro vs e rd
        cases vs with
        | nil => cases e
        | cons q t =>
          obtain ⟨k1, d1⟩ := p
          obtain ⟨k2, v2⟩ := q
          injection e with e1 e2
          have e1 : k1 = k2 := e1
          subst e1
          cases rd with
          | cons r1 r2 =>
            obtain ⟨a, b⟩ := ih e2 r2
            by_cases h : k1 = k
            · simp only [List.map_cons, if_pos h]
              exact ⟨by rw [a], .cons rv b⟩
            · simp only [List.map_cons, if_neg h]
              exact ⟨by rw [a], .cons r1 b⟩
    exact go e rd
  · rw [List.map_append, List.map_append, List.map_append, List.map_append, e]
    exact ⟨rfl, rd.append (.cons rv .nil)⟩
theorem dkOf_some {a : Nat} {kvs : List (Key × D)} (h : dkOf S a = some kvs) : ∃ fz, S[a]? = some (.dk fz kvs) := by
  unfold dkOf at h
  split at h
  · rename_i e; cases h; exact ⟨_, e⟩
  · cases h
theorem Wd.dkAt (w : Wd T K ρ S H) {a : Nat} {fz : Bool} {kvs : List (Key × D)} (h : S[a]? = some (.dk fz kvs)) : ∃ vs, Rd H (ρ a) (.dK vs) ∧ kvs.map Prod.fst = vs.map Prod.fst ∧ RDs K ρ S.length H (kvs.map Prod.snd) (vs.map Prod.snd) := by
  have q := w.ob a _ h
  cases fz with
  | false => obtain ⟨vs, e, k, r⟩ := q; exact ⟨vs, .inl e, k, r⟩
  | true => obtain ⟨o, vs, e, k, r⟩ := q; exact ⟨vs, .inr ⟨o, e⟩, k, r⟩
theorem dget_of (w : Wd T K ρ S H) {a : Nat} {fz : Bool} {kvs : List (Key × D)} (h : S[a]? = some (.dk fz kvs)) {y : D} {k : Key} {u : V} (hk : keyOf y = some k) (r : RD K ρ S.length H y u) : ∃ o, DGet H (ρ a) u o ∧ match dGet kvs k with
    | some d => ∃ v, o = some v ∧ RD K ρ S.length H d v
    | none => o = none := by
  obtain ⟨vs, e, ke, rd⟩ := w.dkAt h
  obtain ⟨i1, i2⟩ := dGet_rd k ke rd
  refine ⟨valV vs k, .inl ⟨vs, k, e, keyOf_kV hk r, rfl⟩, ?_⟩
  split
  · rename_i d hd; exact i1 d hd
  · rename_i hd; exact i2 hd
theorem Wd.setDk (w : Wd T K ρ S H) {a : Nat} {kvs : List (Key × D)} (h : S[a]? = some (.dk false kvs)) {vs : List (Key × V)} (e : H (ρ a) = some (.dK vs)) (ke : kvs.map Prod.fst = vs.map Prod.fst) (rd : RDs K ρ S.length H (kvs.map Prod.snd) (vs.map Prod.snd)) (k : Key) {d : D} {v : V} (rv : RD K ρ S.length H d v) : Wd T K ρ (S.set a (.dk false (dPut kvs k d))) (upd H (ρ a) (.dK (putK vs k v))) := by
  obtain ⟨a1, a2⟩ := dPut_rd k rv ke rd
  exact w.setO h e trivial ⟨_, upd_same, a1, a2.ext (Ext.setAt (w.lt h) e trivial)⟩
end

/-! ### instances -/
section
variable {T : Tbl} {K : PySem.W.Frag} {ρ : Nat → Addr} {n : Nat} {S : Sto} {H : Hp}
/-! ### nested tuples as keys -/
mutual
theorem rd_nk : ∀ {k : NestedKey} {v : V}, RD K ρ n H (nkD k) v → NkV K H k v
  | .none, v, r => by
    simp only [nkD] at r
    cases r
    exact .non
  | .num i, v, r => by
    simp only [nkD] at r
    cases r
    exact .num i
  | .text x, v, r => by
    simp only [nkD] at r
    cases r
    exact .text x
  | .tup ks, v, r => by
    simp only [nkD] at r
    cases r with
    | tup q s => exact .tup q.t (rds_nk s)
theorem rds_nk : ∀ {ks : List NestedKey} {vs : List V}, RDs K ρ n H (nkDs ks) vs → NkVs K H ks vs
  | [], vs, r => by
    simp only [nkDs] at r
    cases r
    exact .nil
  | k :: ks, vs, r => by
    simp only [nkDs] at r
    cases r with
    | cons r1 r2 => exact .cons (rd_nk r1) (rds_nk r2)
end
theorem nk_of {d : D} {k : NestedKey} {v : V} (h : ndKey d = some k) (r : RD K ρ n H d v) : ∃ b, v = .ref b ∧ IsNk K H k b := by
  obtain ⟨h1, h2, ks, h3⟩ := ndKey_inv h
  rw [← h1] at r
  have q := rd_nk r
  subst h3
  cases q with
  | tup hq hs => exact ⟨_, rfl, .tup hq hs, h2⟩
theorem nks_of : ∀ {kvs : List (NestedKey × D)} {xs : List (NestedKey × Addr × V)}, kvs.map Prod.fst = xs.map Prod.fst → RDs K ρ n H (kvs.map fun kv => nkD kv.1) (xs.map fun x => V.ref x.2.1) → (∀ kv ∈ kvs, kv.1.depth ≤ 8 ∧ ∃ ks, kv.1 = .tup ks) → ∀ x ∈ xs, IsNk K H x.1 x.2.1
  | _, [], _, _, _, x, hx => by cases hx
  | [], _ :: _, e, _, _, _, _ => by cases e
  | kv :: kvs, y :: ys, e, r, h, x, hx => by
    rw [List.map_cons, List.map_cons] at e r
    have e1 : kv.1 = y.1 := (List.cons.inj e).1
    cases r with
    | cons r1 r2 =>
      rcases List.mem_cons.mp hx with rfl | hx
      · rw [← e1]
        exact ⟨rd_nk r1, (h kv List.mem_cons_self).1⟩
      · exact nks_of (List.cons.inj e).2 r2 (fun z hz => h z (List.mem_cons_of_mem _ hz)) x hx
theorem atX_rd {k : NestedKey} : ∀ {kvs : List (NestedKey × D)} {xs : List (NestedKey × Addr × V)}, kvs.map Prod.fst = xs.map Prod.fst → RDs K ρ n H (kvs.map Prod.snd) (xs.map fun x => x.2.2) → (∀ d, dGet kvs k = some d → ∃ z, atX xs k = some z ∧ RD K ρ n H d z.2) ∧ (dGet kvs k = none → atX xs k = none)
  | [], [], _, _ => ⟨fun d h => by simp [dGet] at h, fun _ => rfl⟩
  | [], _ :: _, e, _ => by cases e
  | _ :: _, [], e, _ => by cases e
  | kv :: kvs, y :: ys, e, r => by
    rw [List.map_cons, List.map_cons] at e r
    have e1 : kv.1 = y.1 := (List.cons.inj e).1
    cases r with
    | cons r1 r2 =>
      have ih := atX_rd (k := k) (List.cons.inj e).2 r2
      unfold dGet atX at *
      rw [List.find?_cons, List.find?_cons]
      by_cases z : kv.1 = k
      · rw [decide_eq_true z, decide_eq_true (e1.symm.trans z)]
        exact ⟨fun d hd => by cases hd; exact ⟨_, rfl, r1⟩, fun q => by cases q⟩
      · rw [decide_eq_false z, decide_eq_false (fun q => z (e1.trans q))]
        exact ih
theorem Wd.ndAt (w : Wd T K ρ S H) {a : Nat} {fz : Bool} {kvs : List (NestedKey × D)} (h : S[a]? = some (.nd fz kvs)) : ∃ xs, NdAt K T.w H (ρ a) xs ∧ kvs.map Prod.fst = xs.map Prod.fst ∧ RDs K ρ S.length H (kvs.map Prod.snd) (xs.map fun x => x.2.2) := by
  cases fz with
  | false =>
    obtain ⟨xs, e, k, r, r2, z⟩ := w.ob a _ h
    exact ⟨xs, ⟨.inl e, nks_of k r z⟩, k, r2⟩
  | true =>
    obtain ⟨o, xs, e, k, r, r2, z⟩ := w.ob a _ h
    exact ⟨xs, ⟨.inr ⟨o, e⟩, nks_of k r z⟩, k, r2⟩
theorem any_atX {k : NestedKey} : ∀ {kvs : List (NestedKey × D)} {xs : List (NestedKey × Addr × V)}, kvs.map Prod.fst = xs.map Prod.fst → (kvs.any fun kv => decide (kv.1 = k)) = (atX xs k).isSome
  | [], [], _ => rfl
  | [], _ :: _, e => by cases e
  | _ :: _, [], e => by cases e
  | kv :: kvs, y :: ys, e => by
    rw [List.map_cons, List.map_cons] at e
    have e1 : kv.1 = y.1 := (List.cons.inj e).1
    have ih := any_atX (k := k) (List.cons.inj e).2
    unfold atX at *
    rw [List.any_cons, List.find?_cons, ih]
    by_cases z : kv.1 = k
    · rw [decide_eq_true z, decide_eq_true (e1.symm.trans z)]
      rfl
    · rw [decide_eq_false z, decide_eq_false (fun q => z (e1.trans q))]
      rfl
theorem put_mapN {k : NestedKey} {d : D} {v : V} (rv : RD K ρ n H d v) : ∀ {kvs : List (NestedKey × D)} {xs : List (NestedKey × Addr × V)}, kvs.map Prod.fst = xs.map Prod.fst → RDs K ρ n H (kvs.map fun kv => nkD kv.1) (xs.map fun x => V.ref x.2.1) → RDs K ρ n H (kvs.map Prod.snd) (xs.map fun x => x.2.2) →
    (kvs.map fun kv => if kv.1 = k then (kv.1, d) else kv).map Prod.fst = (xs.map fun x => if x.1 = k then (x.1, x.2.1, v) else x).map Prod.fst ∧ RDs K ρ n H ((kvs.map fun kv => if kv.1 = k then (kv.1, d) else kv).map fun kv => nkD kv.1) ((xs.map fun x => if x.1 = k then (x.1, x.2.1, v) else x).map fun x => V.ref x.2.1) ∧ RDs K ρ n H ((kvs.map fun kv => if kv.1 = k then (kv.1, d) else kv).map Prod.snd) ((xs.map fun x => if x.1 = k then (x.1, x.2.1, v) else x).map fun x => x.2.2)
  | [], [], _, _, _ => ⟨rfl, .nil, .nil⟩
  | [], _ :: _, e, _, _ => by cases e
  | _ :: _, [], e, _, _ => by cases e
  | kv :: kvs, y :: ys, e, r, r' => by
    rw [List.map_cons, List.map_cons] at e r r'
    have e1 : kv.1 = y.1 := (List.cons.inj e).1
    cases r with
    | cons r1 r2 =>
      cases r' with
      | cons s1 s2 =>
        obtain ⟨i1, i2, i3⟩ := put_mapN rv (List.cons.inj e).2 r2 s2
        simp only [List.map_cons]
        by_cases z : kv.1 = k
        · rw [if_pos z, if_pos (e1.symm.trans z)]
          exact ⟨by rw [e1, i1], .cons r1 i2, .cons rv i3⟩
        · rw [if_neg z, if_neg (fun q => z (e1.trans q))]
          exact ⟨by rw [e1, i1], .cons r1 i2, .cons s1 i3⟩
theorem put_nd {k : NestedKey} {b : Addr} {d : D} {v : V} (hk : RD K ρ n H (nkD k) (.ref b)) (rv : RD K ρ n H d v) {kvs : List (NestedKey × D)} {xs : List (NestedKey × Addr × V)} (e : kvs.map Prod.fst = xs.map Prod.fst) (r : RDs K ρ n H (kvs.map fun kv => nkD kv.1) (xs.map fun x => V.ref x.2.1)) (r' : RDs K ρ n H (kvs.map Prod.snd) (xs.map fun x => x.2.2)) :
    (dPut kvs k d).map Prod.fst = (putX xs k b v).map Prod.fst ∧ RDs K ρ n H ((dPut kvs k d).map fun kv => nkD kv.1) ((putX xs k b v).map fun x => V.ref x.2.1) ∧ RDs K ρ n H ((dPut kvs k d).map Prod.snd) ((putX xs k b v).map fun x => x.2.2) := by
  unfold dPut putX
  rw [any_atX (k := k) e]
  split
  · exact put_mapN rv e r r'
  · simp only [List.map_append]
    exact ⟨by rw [e]; rfl, r.append (.cons hk .nil), r'.append (.cons rv .nil)⟩
theorem put_all {kvs : List (NestedKey × D)} {k : NestedKey} {d : D} (h : ∀ kv ∈ kvs, kv.1.depth ≤ 8 ∧ ∃ ks, kv.1 = .tup ks) (hk : k.depth ≤ 8 ∧ ∃ ks, k = .tup ks) : ∀ kv ∈ dPut kvs k d, kv.1.depth ≤ 8 ∧ ∃ ks, kv.1 = .tup ks := by
  intro kv hkv
  unfold dPut at hkv
  split at hkv
  · obtain ⟨x, hx, rfl⟩ := List.mem_map.mp hkv
    split
    · exact h x hx
    · exact h x hx
  · rcases List.mem_append.mp hkv with z | z
    · exact h kv z
    · rw [List.mem_singleton.mp z]
      exact hk
theorem Wd.setNd (w : Wd T K ρ S H) {a : Nat} {kvs : List (NestedKey × D)} (h : S[a]? = some (.nd false kvs)) {y : D} {k : NestedKey} {b : Addr} (hk : ndKey y = some k) (ry : RD K ρ S.length H y (.ref b)) {d : D} {v : V} (rv : RD K ρ S.length H d v) {xs : List (NestedKey × Addr × V)} (e : H (ρ a) = some (.ext (NdP T.w (ρ a) xs))) (ke : kvs.map Prod.fst = xs.map Prod.fst) (r : RDs K ρ S.length H (kvs.map fun kv => nkD kv.1) (xs.map fun x => V.ref x.2.1)) (r' : RDs K ρ S.length H (kvs.map Prod.snd) (xs.map fun x => x.2.2)) (z : ∀ kv ∈ kvs, kv.1.depth ≤ 8 ∧ ∃ ks, kv.1 = .tup ks) :
    Wd T K ρ (S.set a (.nd false (dPut kvs k d))) (upd H (ρ a) (.ext (NdP T.w (ρ a) (putX xs k b v)))) := by
  obtain ⟨h1, h2, h3⟩ := ndKey_inv hk
  have hkd : RD K ρ S.length H (nkD k) (.ref b) := by rw [h1]; exact ry
  obtain ⟨p1, p2, p3⟩ := put_nd hkd rv ke r r'
  have ex := Ext.setAt (K := K) (ρ := ρ) (n := S.length) (o := .ext (NdP T.w (ρ a) (putX xs k b v))) (w.lt h) e trivial
  exact w.setO h e trivial ⟨_, upd_same, p1, p2.ext ex, p3.ext ex, put_all z ⟨h2, h3⟩⟩
theorem fld_rd (f : Str) : ∀ {fs : List (Str × D)} {vs : List (Str × V)}, fs.map Prod.fst = vs.map Prod.fst → RDs K ρ n H (fs.map Prod.snd) (vs.map Prod.snd) → ∀ d, fs.lookup f = some d → ∃ v, vs.lookup f = some v ∧ RD K ρ n H d v
  | [], _, _, _, d, h => by cases h
  | _ :: _, [], e, _, _, _ => by cases e
  | (k1, d1) :: r, (k2, v2) :: q, e, rd, d, h => by
    rw [List.map_cons, List.map_cons] at e rd
    injection e with e1 e2
    cases rd with
    | cons r1 r2 =>
      have e1 : k1 = k2 := e1
      subst e1
      cases z : (f == k1) with
      | true =>
        have a1 : List.lookup f ((k1, d1) :: r) = some d1 := by simp [List.lookup, z]
        have a2 : List.lookup f ((k1, v2) :: q) = some v2 := by simp [List.lookup, z]
        rw [a1] at h
        cases h
        exact ⟨v2, a2, r1⟩
      | false =>
        have a1 : List.lookup f ((k1, d1) :: r) = List.lookup f r := by simp [List.lookup, z]
        have a2 : List.lookup f ((k1, v2) :: q) = List.lookup f q := by simp [List.lookup, z]
        rw [a1] at h
        rw [a2]
        exact fld_rd f e2 r2 d h
theorem putF_rd (f : Str) {d : D} {v : V} (rv : RD K ρ n H d v) : ∀ {fs : List (Str × D)} {vs : List (Str × V)}, fs.map Prod.fst = vs.map Prod.fst → RDs K ρ n H (fs.map Prod.snd) (vs.map Prod.snd) → (putFD f d fs).map Prod.fst = (putF f v vs).map Prod.fst ∧ RDs K ρ n H ((putFD f d fs).map Prod.snd) ((putF f v vs).map Prod.snd)
  | [], [], _, _ => ⟨rfl, .cons rv .nil⟩
  | [], _ :: _, e, _ => by cases e
  | _ :: _, [], e, _ => by cases e
  | (k1, d1) :: r, (k2, v2) :: q, e, rd => by
    rw [List.map_cons, List.map_cons] at e rd
    injection e with e1 e2
    cases rd with
    | cons r1 r2 =>
      have e1 : k1 = k2 := e1
      subst e1
      obtain ⟨a1, a2⟩ := putF_rd f rv e2 r2
      unfold putFD putF
      by_cases z : k1 = f
      · rw [if_pos z, if_pos z]
        exact ⟨by rw [List.map_cons, List.map_cons, e2], .cons rv r2⟩
      · rw [if_neg z, if_neg z]
        exact ⟨by rw [List.map_cons, List.map_cons, a1], .cons r1 a2⟩
theorem Wd.insAt (w : Wd T K ρ S H) {a c : Nat} {fs : List (Str × D)} (h : S[a]? = some (.ins c fs)) : ∃ C dx vs, T c = some (C, none) ∧ H (ρ a) = some (.ins C dx vs) ∧ H dx = some (.own (ρ a)) ∧ fs.map Prod.fst = vs.map Prod.fst ∧ RDs K ρ S.length H (fs.map Prod.snd) (vs.map Prod.snd) := w.ob a _ h
theorem Wd.setF (w : Wd T K ρ S H) {a c : Nat} {fs : List (Str × D)} (h : S[a]? = some (.ins c fs)) {C dx : Addr} {vs : List (Str × V)} (t : T c = some (C, none)) (e : H (ρ a) = some (.ins C dx vs)) (ed : H dx = some (.own (ρ a))) (ke : fs.map Prod.fst = vs.map Prod.fst) (rd : RDs K ρ S.length H (fs.map Prod.snd) (vs.map Prod.snd)) (f : Str) {d : D} {v : V} (rv : RD K ρ S.length H d v) : Wd T K ρ (S.set a (.ins c (putFD f d fs))) (upd H (ρ a) (.ins C dx (putF f v vs))) := by
  obtain ⟨a1, a2⟩ := putF_rd f rv ke rd
  have ex : Ext K ρ S.length H ρ S.length (upd H (ρ a) (.ins C dx (putF f v vs))) := Ext.setAt (w.lt h) e trivial
  exact w.setO h e trivial ⟨C, dx, _, t, upd_same, ex.ow _ _ ed, a1, a2.ext ex⟩
end
/-! ### wishes behind -/
section
variable (T : Tbl) (K : PySem.W.Frag)
def Pst (ρ : Nat → Addr) (n : Nat) (H : Hp) (Q : VK) : KD := fun d S' => ∀ ρ' H' v, Ext K ρ n H ρ' S'.length H' → Wd T K ρ' S' H' → RD K ρ' S'.length H' d v → Q v H'
end
section
variable {T : Tbl} {K : PySem.W.Frag} {ρ ρ1 : Nat → Addr} {n n1 : Nat} {S S1 : Sto} {H H1 : Hp} {Q : VK}
theorem Pst.ext {d : D} (e : Ext K ρ n H ρ1 n1 H1) (h : Pst T K ρ n H Q d S) : Pst T K ρ1 n1 H1 Q d S := fun ρ' H' v e' w r => h ρ' H' v (e.trans e') w r
theorem Pst.here {d : D} {v : V} (w : Wd T K ρ S H) (h : Pst T K ρ S.length H Q d S) (r : RD K ρ S.length H d v) : Q v H := h ρ H v Ext.refl w r
theorem Pst.tup {xs : List D} {vs : List V} (w : Wd T K ρ S H) (h : Pst T K ρ S.length H Q (.tup xs) S) (r : RDs K ρ S.length H xs vs) : LayT H Q vs := fun p o hp ho =>
  h ρ _ _ (Ext.new hp) (w.new hp) (.tup (.inl ⟨o, upd_same, ho⟩) (r.ext (Ext.new hp)))
theorem Pst.lst {xs : List D} {vs : List V} {p : Addr} (w : Wd T K ρ S H) (h : Pst T K ρ S.length H Q (.ref S.length) (S ++ [O.lst xs])) (r : RDs K ρ S.length H xs vs) (hp : H p = none) : Q (.ref p) (upd H p (.lst vs)) := by
  refine h (nxt ρ S.length p) _ _ (Ext.alloc' hp) (w.alloc hp r) ?_
  have e : RD K (nxt ρ S.length p) (S ++ [O.lst xs]).length (upd H p (.lst vs)) (.ref S.length) (.ref (nxt ρ S.length p S.length)) := .ref (by simp)
  rw [nxt_self] at e
  exact e
theorem Pst.obj {o : O} {u : HO} {p : Addr} (w : Wd T K ρ S H) (h : Pst T K ρ S.length H Q (.ref S.length) (S ++ [o])) (r : RO T K ρ S.length (upd H p u) o p) (hp : H p = none) : Q (.ref p) (upd H p u) := by
  have g := h (nxt ρ S.length p) _ (.ref (nxt ρ S.length p S.length)) (Ext.alloc' hp) (w.allocO hp r) (.ref (by simp))
  rw [nxt_self] at g
  exact g
theorem Pst.dk {kvs : List (Key × D)} {vs : List (Key × V)} {p : Addr} (w : Wd T K ρ S H) (h : Pst T K ρ S.length H Q (.ref S.length) (S ++ [O.dk false kvs])) (ke : kvs.map Prod.fst = vs.map Prod.fst) (rd : RDs K ρ S.length H (kvs.map Prod.snd) (vs.map Prod.snd)) (hp : H p = none) : Q (.ref p) (upd H p (.dK vs)) :=
  h.obj w ⟨vs, upd_same, ke, rd.ext (Ext.new hp)⟩ hp

/-! ### operators -/
def bopOf : Bop → Operator
  | .add => .Add | .sub => .Sub | .mul => .Mult | .fdiv => .FloorDiv | .mod => .Mod | .pow => .Pow | .shl => .LShift | .shr => .RShift | .band => .BitAnd | .bor => .BitOr | .bxor => .BitXor
def rStrAdd : R2 := fun x y H Q => ∃ i j, x = .str i ∧ y = .str j ∧ i.length + j.length ≤ sizeLine ∧ Q (.str (i ++ j)) H
/-- a text times an int -/
def rMulS : R2 := fun x y H Q => ∃ z n, x = .str z ∧ y = .int n ∧ (0 ≤ n ∧ n < 2 ^ 62 ∧ z.length * n.toNat ≤ sizeLine) ∧ Q (.str (repS z n.toNat)) H
theorem fold_nat (its : List Nat) : ∀ (k : Nat) (acc : List Nat), List.foldl (fun x1 x2 => x1 ++ x2) acc.toArray (List.replicate k its.toArray) = (acc ++ (List.replicate k its).flatten).toArray
  | 0, acc => by simp
  | k + 1, acc => by
    have e : acc.toArray ++ its.toArray = (acc ++ its).toArray := by simp
    have e2 : (acc ++ its) ++ (List.replicate k its).flatten = acc ++ (List.replicate (k + 1) its).flatten := by
      rw [List.replicate_succ, List.flatten_cons, List.append_assoc]
    rw [← e2, ← fold_nat its k (acc ++ its), ← e, List.replicate_succ, List.foldl_cons]
theorem fold_rep (z : Str) (n : Nat) : (⟨(List.replicate n z.cps).foldl (fun x1 x2 => x1 ++ x2) #[]⟩ : Str) = repS z n := by
  have h := fold_nat z.cps.toList n []
  rw [Array.toArray_toList] at h
  unfold repS
  rw [List.nil_append] at h
  rw [← h]
theorem repS_zero (z : Str) : repS z 0 = Str.empty := rfl
theorem repS_same (z : Str) (n : Nat) (h : n = 1 ∨ z.length = 0) : repS z n = z := by
  rcases h with rfl | h
  · unfold repS
    simp
  · have e : z.cps.toList = [] := List.eq_nil_of_length_eq_zero (by simpa [Str.length] using h)
    have e0 : (List.replicate n ([] : List Nat)).flatten = [] := by
      rw [List.flatten_eq_nil_iff]
      intro l hl
      exact (List.mem_replicate.mp hl).2
    have e2 : z.cps = #[] := Array.toList_inj.mp (by rw [e])
    unfold repS
    rw [e, e0]
    cases z
    simp only at e2
    rw [e2]
theorem op_mulS {X : Cx} : OpR X (binaryOp .Mult) rMulS := by
  intro pins s σ H x y v u Q I rx ry h
  obtain ⟨z, n, rfl, rfl, ⟨h0, h1, h2⟩, q⟩ := h
  obtain ⟨t, rfl⟩ := rx
  obtain ⟨t', rfl⟩ := ry
  refine PySem.P.mul_str (by rw [decide_eq_false (by omega), decide_eq_false (by omega)]; rfl) (fun hn _ => ?_) (fun _ _ => decide_eq_false (by omega)) ?_
  · have hs : (sizeLine : Nat) < 2 ^ 62 := by decide
    have hp : 0 < n := by omega
    have hm : (z.length : Int) * n ≤ 2 ^ 63 - 1 := by
      have e : (z.length : Int) * n = ((z.length * n.toNat : Nat) : Int) := by rw [Int.natCast_mul, Int.toNat_of_nonneg h0]
      rw [e]
      omega
    have := (Int.le_ediv_iff_mul_le hp).mpr hm
    omega
  · by_cases hn : n < 1
    · rw [if_pos hn]
      have e : n.toNat = 0 := by omega
      rw [e, repS_zero] at q
      exact ⟨by decide, .str _, H, I.tok _, ⟨_, rfl⟩, q⟩
    · rw [if_neg hn]
      by_cases hc : (n == 1 || z.length == 0) = true
      · rw [if_pos hc]
        have hc2 : n.toNat = 1 ∨ z.length = 0 := by
          rw [Bool.or_eq_true] at hc
          rcases hc with hc | hc
          · left; have := beq_iff_eq.mp hc; omega
          · right; exact beq_iff_eq.mp hc
        rw [repS_same z _ hc2] at q
        exact ⟨.str z, H, I, ⟨t, rfl⟩, q⟩
      · rw [if_neg hc]
        rw [← fold_rep] at q
        refine ⟨?_, .str _, H, I.tok _, ⟨_, rfl⟩, q⟩
        rw [fold_rep]
        show (repS z n.toNat).length ≤ sizeLine
        have e : (repS z n.toNat).length = z.length * n.toNat := by
          unfold repS
          simp [Str.length, Nat.mul_comm]
        rw [e]
        exact h2
def bopR (K : PySem.W.Frag) : Bop → R2
  | .add => fun x y H Q => rI0 (fun i j => .int (i + j)) x y H Q ∨ rCatN K x y H Q ∨ rStrAdd x y H Q ∨ rCat x y H Q
  | .sub => rI0 fun i j => .int (i - j)
  | .mul => fun x y H Q => rI IntMulOk (fun i j => .int (i * j)) x y H Q ∨ rMulS x y H Q
  | .fdiv => fun x y H Q => rI CDivW (fun i j => .int (i / j)) x y H Q ∨ rI CDivN (fun i j => .int (i.fdiv j)) x y H Q
  | .mod => fun x y H Q => rI (fun _ j => 0 < j) (fun i j => .int (i % j)) x y H Q ∨ rI (fun _ j => j ≠ 0) (fun i j => .int (i.fmod j)) x y H Q
  | .pow => rI CPow fun i j => .int (i ^ j.toNat)
  | .shl => rI CShl fun i j => .int (i * 2 ^ j.toNat)
  | .shr => rI (fun _ j => 0 ≤ j) fun i j => .int (i / 2 ^ j.toNat)
  | .band => rI0 fun i j => .int (Builtin.bitAnd i j)
  | .bor => rI0 fun i j => .int (Builtin.bitOr i j)
  | .bxor => rI0 fun i j => .int (Builtin.bitXor i j)
theorem op_mulI {X : Cx} : OpR X (binaryOp .Mult) (rI IntMulOk fun i j => .int (i * j)) := opI fun _ _ _ _ _ _ _ hc q => mul_int q hc
theorem bop_ok {X : Cx} (op : Bop) : OpR X (binaryOp (bopOf op)) (bopR X.K op) := by
  cases op with
  | add => exact op_add.or (op_catN.or (op_add_str.or op_cat))
  | sub => exact op_sub
  | mul => exact op_mulI.or op_mulS
  | fdiv => exact op_fdivW.or op_fdivN
  | mod => exact op_mod.or op_modN
  | pow => exact op_pow
  | shl => exact op_shlW
  | shr => exact op_shr
  | band => exact op_and
  | bor => exact op_or
  | bxor => exact op_xor
theorem bop_of {op : Bop} {x y : D} {v u : V} (w : Wd T K ρ S H) (r : RD K ρ S.length H x v) (r' : RD K ρ S.length H y u) (h : wpBin op x y S (Pst T K ρ S.length H Q)) : bopR K op v u H Q := by
  unfold wpBin at h
  split at h
  · cases r; cases r'; exact .inl ⟨_, _, rfl, rfl, h.here w (.int _)⟩
  · obtain ⟨hl, h⟩ := h
    cases r with
    | tup q1 s1 =>
      cases r' with
      | tup q2 s2 =>
        refine .inr (.inl ⟨_, _, _, _, rfl, rfl, q1.t, q2.t, by rw [← s1.length, ← s2.length]; exact hl, fun e => ?_, fun e1 e2 => ?_, fun e1 e2 => h.tup w (s1.append s2)⟩)
        · subst e
          cases s1
          exact h.here w (.tup q2 s2)
        · subst e2
          cases s2
          rw [List.append_nil] at h
          exact h.here w (.tup q1 s1)
  · obtain ⟨hl, h⟩ := h
    cases r; cases r'; exact .inr (.inr (.inl ⟨_, _, rfl, rfl, hl, h.here w (.str _)⟩))
  · cases r; cases r'
    split at h
    · rename_i xs ys e1 e2
      obtain ⟨hl, h⟩ := h
      obtain ⟨vs, a1, s1⟩ := w.lstAt e1
      obtain ⟨us, a2, s2⟩ := w.lstAt e2
      exact .inr (.inr (.inr ⟨_, _, _, _, rfl, rfl, a1, a2, by rw [← s1.length, ← s2.length]; exact hl, fun p hp => h.lst w (s1.append s2) hp⟩))
    · exact h.elim
  all_goals first
    | (cases r; cases r'; exact ⟨_, _, rfl, rfl, h.here w (.int _)⟩)
    | (cases r; cases r'; exact ⟨_, _, rfl, rfl, h.1, h.2.here w (.int _)⟩)
    | (cases r; cases r'; exact .inl ⟨_, _, rfl, rfl, h.1, h.2.here w (.int _)⟩)
    | (cases r; cases r'; exact .inr ⟨_, _, rfl, rfl, h.1, h.2.here w (.str _)⟩)
    | (cases r; cases r'; split at h <;> first
        | exact .inl ⟨_, _, rfl, rfl, ⟨‹_›, h.1⟩, h.2.here w (.int _)⟩
        | exact .inr ⟨_, _, rfl, rfl, h.1, h.2.here w (.int _)⟩
        | exact .inl ⟨_, _, rfl, rfl, ‹_›, h.here w (.int _)⟩)
    | exact h.elim

def copOf : Cop → CmpOp
  | .eq => .Eq | .ne => .NotEq | .lt => .Lt | .le => .LtE | .gt => .Gt | .ge => .GtE | .isin => .In | .notin => .NotIn | .isN => .Is | .notN => .IsNot
def rInK (neg : Bool) : R2 := fun x y H Q => ∃ p o, y = .ref p ∧ DGet H p x o ∧ Q (.bl (neg ^^ o.isSome)) H
/-- a text in a text -/
def rInS (neg : Bool) : R2 := fun x y H Q => ∃ i j, x = .str i ∧ y = .str j ∧ Q (.bl (neg ^^ !(Builtin.Str.occurrences j i 0 j.length 1).isEmpty)) H
def copR (K : PySem.W.Frag) (wo : World) : Cop → R2
  | .eq => fun x y H Q => rEq x y H Q ∨ rEqD K x y H Q ∨ rEqDA x y H Q
  | .ne => fun x y H Q => rNe x y H Q ∨ rNeD K x y H Q ∨ rNeDA x y H Q
  | .lt => fun x y H Q => rI0 (fun i j => .bl (decide (i < j))) x y H Q ∨ rLtD K x y H Q
  | .le => rI0 fun i j => .bl (decide (i ≤ j))
  | .gt => rI0 fun i j => .bl (decide (j < i))
  | .ge => rI0 fun i j => .bl (decide (j ≤ i))
  | .isin => fun x y H Q => rIn K false x y H Q ∨ rInD K x y H Q ∨ rInK false x y H Q ∨ rInS false x y H Q ∨ rInN K wo false x y H Q
  | .notin => fun x y H Q => rIn K true x y H Q ∨ rNotInD K x y H Q ∨ rInK true x y H Q ∨ rInS true x y H Q ∨ rInN K wo true x y H Q
  | .isN => fun x y H Q => (y = .non ∧ Q (.bl (decide (x = .non))) H) ∨ ∃ a b, x = .bl a ∧ y = .bl b ∧ Q (.bl (decide (a = b))) H
  | .notN => fun x y H Q => (y = .non ∧ Q (.bl (!decide (x = .non))) H) ∨ ∃ a b, x = .bl a ∧ y = .bl b ∧ Q (.bl (!decide (a = b))) H
theorem op_inK {X : Cx} (hu : X.A.units + 1 < cLine) : OpR X (compareOp .In) (rInK false) := by
  intro pins s σ H x y v u Q I rx ry ⟨p, o, ey, g, q⟩
  subst ey
  obtain rfl : u = Value.ref p := ry
  rw [show (false ^^ o.isSome) = o.isSome by cases o.isSome <;> rfl] at q
  exact d_in hu I g rx fun s3 I3 => ⟨.bl o.isSome, H, I3, rfl, q⟩
theorem op_ninK {X : Cx} (hu : X.A.units + 1 < cLine) : OpR X (compareOp .NotIn) (rInK true) := by
  intro pins s σ H x y v u Q I rx ry ⟨p, o, ey, g, q⟩
  subst ey
  obtain rfl : u = Value.ref p := ry
  rw [show (true ^^ o.isSome) = !o.isSome by cases o.isSome <;> rfl] at q
  exact d_notIn hu I g rx fun s3 I3 => ⟨.bl (!o.isSome), H, I3, rfl, q⟩
theorem op_inS {X : Cx} : OpR X (compareOp .In) (rInS false) := by
  intro pins s σ H x y v u Q I rx ry ⟨i, j, ex, ey, q⟩
  rw [show ∀ b, (false ^^ b) = b by decide] at q
  exact op_in_str pins s σ H x y v u Q I rx ry ⟨i, j, ex, ey, q⟩
theorem op_ninS {X : Cx} : OpR X (compareOp .NotIn) (rInS true) := by
  intro pins s σ H x y v u Q I rx ry ⟨i, j, ex, ey, q⟩
  rw [show ∀ b, (true ^^ b) = !b by decide] at q
  exact op_notin_str pins s σ H x y v u Q I rx ry ⟨i, j, ex, ey, q⟩
theorem cop_ok {X : Cx} (hu : X.A.units + 65 < cLine) (op : Cop) : OpR X (compareOp (copOf op)) (copR X.K X.w op) := by
  cases op with
  | eq => exact op_eq.or ((op_eqD (by omega)).or (op_eq_dictA (by omega)))
  | ne => exact op_ne.or ((op_neD (by omega)).or (op_ne_dictA (by omega)))
  | lt => exact op_lt.or (op_ltD hu)
  | le => exact op_le
  | gt => exact op_gt
  | ge => exact op_ge
  | isin => exact op_in_seq.or ((op_inD hu).or ((op_inK (by omega)).or (op_inS.or (in_nd (by omega)))))
  | notin => exact op_notIn_seq.or ((op_notInD hu).or ((op_ninK (by omega)).or (op_ninS.or (notin_nd (by omega)))))
  | isN => exact op_isN.or op_is_bl
  | notN => exact op_notN.or op_isnot_bl
theorem xorT (b : Bool) : (true ^^ b) = !b := by cases b <;> rfl
theorem xorF (b : Bool) : (false ^^ b) = b := by cases b <;> rfl
theorem flat_snd : ∀ {xs : List D} {v1 v2 : List V}, (∀ x ∈ xs, flatD x = true) → RDs K ρ n H xs v1 → RDs K ρ n H xs v2 → v1 = v2
  | _, _, _, _, .nil, .nil => rfl
  | _, _, _, h, .cons r t, .cons r' t' => by
    have h1 := h _ List.mem_cons_self
    have h2 := flat_snd (fun x hx => h x (List.mem_cons_of_mem _ hx)) t t'
    rw [h2]
    congr 1
    cases r <;> cases r' <;> first | rfl | cases h1
theorem flatB_of : ∀ {xs : List D} {vs : List V}, (∀ x ∈ xs, flatD x = true) → RDs K ρ n H xs vs → ∀ v ∈ vs, flatB v = true
  | _, _, _, .nil => fun v hv => by cases hv
  | _, _, h, .cons r t => fun v hv => by
    rcases List.mem_cons.mp hv with rfl | hv
    · have h1 := h _ List.mem_cons_self
      cases r <;> first | rfl | cases h1
    · exact flatB_of (fun x hx => h x (List.mem_cons_of_mem _ hx)) t v hv
theorem flat_same {v1 v2 : List (Key × V)} (h1 : v1.map Prod.fst = v2.map Prod.fst) (h2 : v1.map Prod.snd = v2.map Prod.snd) : v1 = v2 := by
  induction v1 generalizing v2 with
  | nil => cases v2 with
    | nil => rfl
    | cons _ _ => cases h1
  | cons p r ih => cases v2 with
    | nil => cases h1
    | cons q s =>
      simp only [List.map_cons, List.cons.injEq] at h1 h2
      rw [ih h1.2 h2.2, Prod.ext h1.1 h2.1]
theorem val_nodup : ∀ {vs : List (Key × V)}, (vs.map Prod.fst).Nodup → ∀ {p : Key × V}, p ∈ vs → valV vs p.1 = some p.2
  | [], _, _, h => by cases h
  | q :: r, nd, p, h => by
    rw [List.map_cons, List.nodup_cons] at nd
    rcases List.mem_cons.mp h with rfl | h
    · exact valV_pos rfl
    · have ne : ¬ q.1 = p.1 := fun e => nd.1 (e ▸ List.mem_map.mpr ⟨p, h, rfl⟩)
      rw [valV_neg ne]
      exact val_nodup nd.2 h
theorem eq_of {neg : Bool} {x y : D} {v u : V} (w : Wd T K ρ S H) (r : RD K ρ S.length H x v) (r' : RD K ρ S.length H y u) (h : wpEq neg x y S (Pst T K ρ S.length H Q)) : (scal v u = true ∧ Q (.bl (neg ^^ decide (v = u))) H) ∨ (∃ d e, Dp K H v d ∧ Dp K H u e ∧ SeqAt.shaped d = true ∧ SeqAt.shaped e = true ∧ Q (.bl (neg ^^ PyData.eqv d e)) H) ∨
      ∃ a b ks, v = .ref a ∧ u = .ref b ∧ H a = some (.dK ks) ∧ H b = some (.dK ks) ∧ (∀ p ∈ ks, valV ks p.1 = some p.2 ∧ flatB p.2 = true) ∧ Q (.bl (neg ^^ true)) H := by
  unfold wpEq at h
  split at h
  · cases r; cases r'
    have e : ∀ i j : Int, decide (V.int i = V.int j) = decide (i = j) := fun i j => by rw [dec_int, Bool.beq_eq_decide_eq]
    exact .inl ⟨rfl, by rw [e]; exact h.here w (.bl _)⟩
  · cases r; cases r'
    have e : ∀ i j : Str, decide (V.str i = V.str j) = decide (i = j) := fun i j => by rw [dec_str, Bool.beq_eq_decide_eq]
    exact .inl ⟨rfl, by rw [e]; exact h.here w (.bl _)⟩
  · cases r; cases r'
    have e : ∀ i j : Bool, decide (V.bl i = V.bl j) = decide (i = j) := fun i j => by rw [dec_bl, Bool.beq_eq_decide_eq]
    exact .inl ⟨rfl, by rw [e]; exact h.here w (.bl _)⟩
  · rcases h with ⟨d, e, p1, p2, s1, s2, h⟩ | ⟨a, b, kvs, rfl, rfl, e1, e2, fl, nd, h⟩
    · exact .inr (.inl ⟨d, e, p1.dp w r, p2.dp w r', s1, s2, h.here w (.bl _)⟩)
    · cases r; cases r'
      obtain ⟨v1, q1, k1, r1⟩ := w.ob _ _ e1
      obtain ⟨v2, q2, k2, r2⟩ := w.ob _ _ e2
      have ev : v1 = v2 := flat_same (k1.symm.trans k2) (flat_snd (fun x hx => by obtain ⟨kv, h1, h2⟩ := List.mem_map.mp hx; rw [← h2]; exact fl kv h1) r1 r2)
      subst ev
      refine .inr (.inr ⟨_, _, v1, rfl, rfl, q1, q2, fun p hp => ?_, h.here w (.bl _)⟩)
      have nd1 : (v1.map Prod.fst).Nodup := by rw [← k1]; exact nd
      refine ⟨val_nodup nd1 hp, ?_⟩
      have hm : p.2 ∈ v1.map Prod.snd := List.mem_map.mpr ⟨p, hp, rfl⟩
      obtain ⟨i, hi⟩ := List.mem_iff_getElem?.mp hm
      exact flatB_of (fun x hx => by obtain ⟨kv, h1, h2⟩ := List.mem_map.mp hx; rw [← h2]; exact fl kv h1) r1 p.2 hm
theorem in_of {neg : Bool} {x y : D} {v u : V} (w : Wd T K ρ S H) (r : RD K ρ S.length H x v) (r' : RD K ρ S.length H y u) (h : wpIn neg x y S (Pst T K ρ S.length H Q)) :
    (∃ p xs, u = .ref p ∧ (SqL K H p xs ∨ SqT K H p xs) ∧ flatV v = true ∧ xs.all flatV = true ∧ Q (.bl (neg ^^ inV v xs)) H) ∨
      (∃ i j, v = .str i ∧ u = .str j ∧ Q (.bl (neg ^^ !(Builtin.Str.occurrences j i 0 j.length 1).isEmpty)) H) ∨
      (∃ d ds, Dp K H v d ∧ Dp K H u (.list ds) ∧ SeqAt.shaped d = true ∧ SeqAt.shaped (.list ds) = true ∧ Q (.bl (neg ^^ ds.any fun z => PyData.eqv z d)) H) ∨
      (∃ p o, u = .ref p ∧ DGet H p v o ∧ Q (.bl (neg ^^ o.isSome)) H) ∨ rInN K T.w neg v u H Q := by
  unfold wpIn at h
  split at h
  · obtain ⟨h1, h2, h⟩ := h
    cases r' with
    | tup q s => exact .inl ⟨_, _, rfl, .inr q.t, flat_rd r h1, flat_rds s h2, by rw [inF_rd r h1 s h2]; exact h.here w (.bl _)⟩
  · split at h
    · rename_i ys e
      cases r'
      obtain ⟨vs, q, s⟩ := w.lstAt e
      replace q : SqL K H _ vs := .inl (.inl q)
      rcases h with ⟨h1, h2, h⟩ | ⟨d, ds, p1, p2, s1, s2, h⟩
      · exact .inl ⟨_, _, rfl, .inl q, flat_rd r h1, flat_rds s h2, by rw [inF_rd r h1 s h2]; exact h.here w (.bl _)⟩
      · exact .inr (.inr (.inl ⟨d, ds, p1.dp w r, .lst q (p2.dp w s), s1, s2, h.here w (.bl _)⟩))
    · split at h
      · rename_i fz kvs e _ k hk
        cases r'
        obtain ⟨o, g, m⟩ := dget_of w e hk r
        refine .inr (.inr (.inr (.inl ⟨_, o, rfl, g, ?_⟩)))
        have eo : o.isSome = (dGet kvs k).isSome := by
          split at m
          · rename_i d hd; obtain ⟨v, rfl, _⟩ := m; rw [hd]; rfl
          · rename_i hd; rw [m, hd]; rfl
        rw [eo]
        exact h.here w (.bl _)
      · exact h.elim
    · split at h
      · rename_i fz kvs e _ k hk
        cases r'
        obtain ⟨xs, hN, ek, rv⟩ := w.ndAt e
        obtain ⟨b, rfl, hb⟩ := nk_of hk r
        refine .inr (.inr (.inr (.inr ⟨_, b, xs, k, rfl, rfl, hN, hb, ?_⟩)))
        have eo : (atX xs k).isSome = (dGet kvs k).isSome := by
          obtain ⟨m1, m2⟩ := atX_rd (k := k) ek rv
          cases hd : dGet kvs k with
          | none => rw [m2 hd]; rfl
          | some d => obtain ⟨z, hz, _⟩ := m1 d hd; rw [hz]; rfl
        rw [eo]
        exact h.here w (.bl _)
      · exact h.elim
    · exact h.elim
  · split at h
    · cases r; cases r'
      exact .inr (.inl ⟨_, _, rfl, rfl, h.here w (.bl _)⟩)
    · exact h.elim
  · exact h.elim
theorem cop_of {op : Cop} {x y : D} {v u : V} (w : Wd T K ρ S H) (r : RD K ρ S.length H x v) (r' : RD K ρ S.length H y u) (h : wpCmp op x y S (Pst T K ρ S.length H Q)) : copR K T.w op v u H Q := by
  unfold wpCmp at h
  split at h
  · rcases eq_of w r r' h with ⟨a, q⟩ | ⟨d, e, a, b, c, f, q⟩ | ⟨a, b, ks, e1, e2, q1, q2, hv, q⟩
    · exact .inl ⟨a, by rw [xorF] at q; exact q⟩
    · exact .inr (.inl ⟨d, e, a, b, c, f, by rw [xorF] at q; exact q⟩)
    · exact .inr (.inr ⟨a, b, ks, ks, e1, e2, q1, q2, rfl, hv, q⟩)
  · rcases eq_of w r r' h with ⟨a, q⟩ | ⟨d, e, a, b, c, f, q⟩ | ⟨a, b, ks, e1, e2, q1, q2, hv, q⟩
    · exact .inl ⟨a, by rw [xorT] at q; exact q⟩
    · exact .inr (.inl ⟨d, e, a, b, c, f, by rw [xorT] at q; exact q⟩)
    · exact .inr (.inr ⟨a, b, ks, ks, e1, e2, q1, q2, rfl, hv, q⟩)
  · cases r; cases r'; exact .inl ⟨_, _, rfl, rfl, h.here w (.bl _)⟩
  · cases r; cases r'; exact ⟨_, _, rfl, rfl, h.here w (.bl _)⟩
  · cases r; cases r'; exact ⟨_, _, rfl, rfl, h.here w (.bl _)⟩
  · cases r; cases r'; exact ⟨_, _, rfl, rfl, h.here w (.bl _)⟩
  · obtain ⟨ds, es, p1, p2, al, dd, h⟩ := h
    refine .inr ⟨.tuple ds, .tuple es, (Pd.tup p1).dp w r, (Pd.tup p2).dp w r', by rw [PySem.W.alike]; exact al, (fun z => nomatch z), dd, h.here w (.bl _)⟩
  · rcases in_of w r r' h with ⟨p, xs, a, b, c, f, q⟩ | ⟨i, j, a, b, q⟩ | ⟨d, e, a, b, c, f, q⟩ | q | q
    · exact .inl ⟨p, xs, a, b, c, f, by rw [xorF] at q; exact q⟩
    · exact .inr (.inr (.inr (.inl ⟨i, j, a, b, q⟩)))
    · exact .inr (.inl ⟨d, e, a, b, c, f, by rw [xorF] at q; exact q⟩)
    · exact .inr (.inr (.inl q))
    · exact .inr (.inr (.inr (.inr q)))
  · rcases in_of w r r' h with ⟨p, xs, a, b, c, f, q⟩ | ⟨i, j, a, b, q⟩ | ⟨d, e, a, b, c, f, q⟩ | q | q
    · exact .inl ⟨p, xs, a, b, c, f, by rw [xorT] at q; exact q⟩
    · exact .inr (.inr (.inr (.inl ⟨i, j, a, b, q⟩)))
    · exact .inr (.inl ⟨d, e, a, b, c, f, by rw [xorT] at q; exact q⟩)
    · exact .inr (.inr (.inl q))
    · exact .inr (.inr (.inr (.inr q)))
  · cases r'
    refine .inl ⟨rfl, ?_⟩
    cases r <;> exact h.here w (.bl _)
  · cases r'
    refine .inl ⟨rfl, ?_⟩
    cases r <;> exact h.here w (.bl _)
  · cases r; cases r'; exact .inr ⟨_, _, rfl, rfl, h.here w (.bl _)⟩
  · cases r; cases r'; exact .inr ⟨_, _, rfl, rfl, h.here w (.bl _)⟩
  · exact h.elim
def rIxK : R2 := fun x y H Q => ∃ a v, x = .ref a ∧ DGet H a y (some v) ∧ Q v H
def rIxW (K : PySem.W.Frag) (wo : World) : R2 := fun x y H Q => rIx K x y H Q ∨ rIxK x y H Q ∨ rIxN K wo x y H Q
theorem ix_dict {X : Cx} (hu : X.A.units + 1 < cLine) : IxR X rIxK := by
  intro value slice pins s σ H x y v u Q I rx ry ⟨a, w, ex, g, q⟩ hs
  subst ex
  obtain rfl : v = Value.ref a := rx
  unfold subscriptTail
  refine wpAny_bind ?_
  rw [getitemInPython_of_ne (dict_typeIs I g).not_modules]
  refine wpAny_bind (wpAny_specialOf (dict_typeIs I g) PySem.F.slot_dict_getitem.lookup ?_)
  have fin : wpAny (model X.prog X.w) X.A (subscripted slice false (.ref a) u) (fun r s₃ => wpAny (model X.prog X.w) X.A (letTemporaryGo value (.ref a) r >>= fun _ => pure r) (EP X pins σ Q) X.xe s₃) X.xe s := by
    rw [hs]
    refine wpAny_operating (d_getItem hu I g ry fun w' s3 I3 rw' => ?_)
    exact wpAny_bind (wpAny_letTemporaryGo (wpAny_pure ⟨w, H, I3, rw', q⟩))
  first
    | exact wpAny_pure (wpAny_bind fin)
    | exact wpAny_bind (wpAny_pure (wpAny_bind fin))
    | exact wpAny_bind fin
theorem ixw_ok {X : Cx} (hu : X.A.units + 9 < cLine) : IxR X (rIxW X.K X.w) := ix_seq.or ((ix_dict (by omega)).or (ix_nd hu))
theorem ix_of {x y : D} {v u : V} (w : Wd T K ρ S H) (r : RD K ρ S.length H x v) (r' : RD K ρ S.length H y u) (h : wpIx x y S (Pst T K ρ S.length H Q)) : rIxW K T.w v u H Q := by
  unfold wpIx at h
  split at h
  · split at h
    · rename_i d e
      cases r'
      cases r with
      | tup q s =>
        obtain ⟨z, e1, rz⟩ := s.atI e
        exact .inl (.inr (.inl ⟨_, _, _, z, rfl, rfl, q.t, e1, h.here w rz⟩))
    · exact h.elim
  · split at h
    · rename_i d e
      cases r'
      cases r with
      | klst q s =>
        obtain ⟨z, e1, rz⟩ := s.atI e
        exact .inl (.inl ⟨_, _, _, z, rfl, rfl, q.l, e1, h.here w rz⟩)
    · exact h.elim
  · split at h
    · rename_i d e
      cases r
      obtain ⟨o, e1, e⟩ := Option.bind_eq_some_iff.mp e
      unfold ixO at e
      split at e
      · cases r'
        obtain ⟨vs, q, s⟩ := w.lstAt e1
        obtain ⟨z, e2, rz⟩ := s.atI e
        exact .inl (.inl ⟨_, _, _, z, rfl, rfl, .inl (.inl q), e2, h.here w rz⟩)
      · obtain ⟨k, hk, e⟩ := Option.bind_eq_some_iff.mp e
        obtain ⟨o, g, m⟩ := dget_of w e1 hk r'
        rw [e] at m
        obtain ⟨z, rfl, rz⟩ := m
        exact .inr (.inl ⟨_, z, rfl, g, h.here w rz⟩)
      · obtain ⟨k, hk, e⟩ := Option.bind_eq_some_iff.mp e
        obtain ⟨xs, hN, ek, rv⟩ := w.ndAt e1
        obtain ⟨b, rfl, hb⟩ := nk_of hk r'
        obtain ⟨z, hz, rz⟩ := (atX_rd (k := k) ek rv).1 _ e
        exact .inr (.inr ⟨_, b, xs, k, z, rfl, rfl, hN, hb, hz, h.here w rz⟩)
      · cases e
    · exact h.elim
  · obtain ⟨hl, h⟩ := h
    split at h
    · rename_i c e
      cases r'
      cases r
      exact .inl (.inr (.inr ⟨_, _, c, rfl, rfl, hl, e, h.here w (.str _)⟩))
    · exact h.elim
  · exact h.elim
theorem cutD_whole {α : Type} {xs : List α} {lo hi : Option Int} (e : HT.sIx xs.length 0 lo = 0 ∧ HT.sIx xs.length xs.length hi = xs.length) : cutD xs lo hi = xs := by
  unfold cutD
  rw [e.1, e.2]
  simp
def rSlAll (K : PySem.W.Frag) : V → Option Int → Option Int → Hp → VK → Prop := fun x lo hi H Q => rSlN K x lo hi H Q ∨ rSlL K x lo hi H Q ∨ rSlS x lo hi H Q
theorem sl_ok {X : Cx} : SlR X (rSlAll X.K) := sl_tupN.or (sl_list.or sl_str)
theorem sl_of {x : D} {lo hi : Option Int} {v : V} (w : Wd T K ρ S H) (r : RD K ρ S.length H x v) (h : wpSl x lo hi S (Pst T K ρ S.length H Q)) : rSlAll K v lo hi H Q := by
  unfold wpSl at h
  split at h
  · cases r with
    | tup q s =>
      refine .inl ⟨_, _, rfl, q.t, fun e => ?_, fun _ => h.tup w (s.cut _ _)⟩
      rw [← s.length] at e
      rw [cutD_whole e] at h
      exact h.here w (.tup q s)
  · cases r with
    | klst q s => exact .inr (.inl ⟨_, _, rfl, q.l, fun p hp => h.lst w (s.cut _ _) hp⟩)
  · split at h
    · rename_i xs e
      cases r
      obtain ⟨vs, q, s⟩ := w.seqAt e
      exact .inr (.inl ⟨_, vs, rfl, q, fun p hp => h.lst w (s.cut _ _) hp⟩)
    · exact h.elim
  · cases r
    exact .inr (.inr ⟨_, rfl, h.1, h.2.here w (.str _)⟩)
  · exact h.elim
theorem tru_of {x : D} {v : V} {k : Bool} (w : Wd T K ρ S H) (r : RD K ρ S.length H x v) (h : tru S x = some k) : TruV K v H k := by
  cases r with
  | non => exact (Option.some.inj h).symm
  | bl b => exact (Option.some.inj h).symm
  | int i => exact (Option.some.inj h).symm
  | str y =>
    simp only [tru] at h
    split at h
    · rename_i hl
      refine ⟨hl, ?_⟩
      rw [← Option.some.inj h]
      generalize y.length = m
      cases m with
      | zero => rfl
      | succ m => rfl
    · cases h
  | tup q s =>
    refine .inr (.inl ⟨_, q.t, ?_⟩)
    rw [← s.isEmpty]
    exact (Option.some.inj h).symm
  | klst q s =>
    refine .inl ⟨_, q.l, ?_⟩
    rw [← s.isEmpty]
    exact (Option.some.inj h).symm
  | fn _ => simp [tru] at h
  | exc _ _ => simp [tru] at h
  | ref hl =>
    simp only [tru] at h
    split at h
    · rename_i xs e
      obtain ⟨vs, q, s⟩ := w.lstAt e
      refine .inl ⟨vs, .inl (.inl q), ?_⟩
      rw [← s.isEmpty]
      exact (Option.some.inj h).symm
    · cases h
theorem truK_of {x : D} {v : V} {P : Bool → Prop} (w : Wd T K ρ S H) (r : RD K ρ S.length H x v) (h : truK S x P) : ∃ k, TruV K v H k ∧ P k := by
  unfold truK at h
  split at h
  · rename_i k e
    exact ⟨k, tru_of w r e, h⟩
  · exact h.elim
end
end MP
/-! MPExp: each construct of the small reading is what the hand layer reads. -/
namespace MP
open PySem PySem.Spec PyProof.Rows L2

section
variable (T : Tbl) (K : PySem.W.Frag)
def RX (ρ : Nat → Addr) (n : Nat) (H : Hp) (x : Ex) (cl : Value) (d : Option Addr) : Prop :=
  ∃ C f dd v, T x.c = some (C, some f) ∧ cl = .ref C ∧ d = some dd ∧ H dd = some (.xd [(f, v)]) ∧ RD K ρ n H x.f v
structure St0 (W : WX) (ρ : Nat → Addr) (σ : Env) (S : Sto) (E : Ex → Sto → Prop) (ς : L2.St) (H : Hp) : Prop where
  wd : Wd T K ρ S H
  er : ER K ρ S.length H σ ς
  ex : ∀ x S', E x S' → ∀ ρ' H' cl d, Ext K ρ S.length H ρ' S'.length H' → Wd T K ρ' S' H' → RX T K ρ' S'.length H' x cl d → W cl d ς H'
def PstL (ρ : Nat → Addr) (n : Nat) (H : Hp) (Q : List V → Hp → Prop) : List D → Sto → Prop := fun d S' => ∀ ρ' H' v, Ext K ρ n H ρ' S'.length H' → Wd T K ρ' S' H' → RDs K ρ' S'.length H' d v → Q v H'
def PstB (ρ : Nat → Addr) (n : Nat) (H : Hp) (Q : Bool → Hp → Prop) : Bool → Sto → Prop := fun d S' => ∀ ρ' H', Ext K ρ n H ρ' S'.length H' → Wd T K ρ' S' H' → Q d H'
def PstO (ρ : Nat → Addr) (n : Nat) (H : Hp) (Q : Option Int → Hp → Prop) : Option Int → Sto → Prop := fun d S' => ∀ ρ' H', Ext K ρ n H ρ' S'.length H' → Wd T K ρ' S' H' → Q d H'
variable (c : CallT) (W : WX)
def tE (x : MX) : TE := fun ς H Q => ∃ ρ σ S E, St0 T K W ρ σ S E ς H ∧ wpE c x E σ S (Pst T K ρ S.length H Q)
def tT (x : MX) : TT := fun ς H Q => ∃ ρ σ S E, St0 T K W ρ σ S E ς H ∧ wpE c x E σ S fun v S' => truK S' v fun k => PstB T K ρ S.length H Q k S'
def tA (es : MXs) : TA := fun ς H Q => ∃ ρ σ S E, St0 T K W ρ σ S E ς H ∧ wpEs c es E σ S (PstL T K ρ S.length H Q)
def tO (o : MXo) : TO := fun ς H Q => ∃ ρ σ S E, St0 T K W ρ σ S E ς H ∧ wpO c o E σ S (PstO T K ρ S.length H Q)
def tFs (es : MXs) : TT := fun ς H Q => ∃ ρ σ S E, St0 T K W ρ σ S E ς H ∧ wpIfs c es E σ S (PstB T K ρ S.length H Q)
end
/-- what a def promises by the small reading -/
def spM (T : Tbl) (K : PySem.W.Frag) (c : CallT) (f np : Nat) : Sp := fun vs H Q E' => ∃ ρ S args E, Wd T K ρ S H ∧ RDs K ρ S.length H args vs ∧ args.length = np ∧
  (∀ x S', E x S' → ∀ ρ' H' cl d, Ext K ρ S.length H ρ' S'.length H' → Wd T K ρ' S' H' → RX T K ρ' S'.length H' x cl d → E' cl d H') ∧ c f args S (Pst T K ρ S.length H Q) E

section
variable {T : Tbl} {K : PySem.W.Frag} {c : CallT} {W : WX} {ρ ρ1 : Nat → Addr} {n n1 : Nat} {σ : Env} {S S1 : Sto} {E : Ex → Sto → Prop} {ς : L2.St} {H H1 : Hp}
theorem ER.ext (r : ER K ρ n H σ ς) (e : Ext K ρ n H ρ1 n1 H1) : ER K ρ1 n1 H1 σ ς := ⟨r.len, fun i d h => let ⟨v, a, b⟩ := r.at_ i d h; ⟨v, a, b.ext e⟩⟩
theorem St0.next (s : St0 T K W ρ σ S E ς H) (e : Ext K ρ S.length H ρ1 S1.length H1) (w : Wd T K ρ1 S1 H1) : St0 T K W ρ1 σ S1 E ς H1 :=
  ⟨w, s.er.ext e, fun x S' h ρ' H' cl d e' w' r => s.ex x S' h ρ' H' cl d (e.trans e') w' r⟩
theorem St0.noex {W' : WX} (s : St0 T K W ρ σ S E ς H) : St0 T K W' ρ σ S (fun _ _ => False) ς H := ⟨s.wd, s.er, fun _ _ z => z.elim⟩
variable (hc : CallMono c c)
include hc
theorem tE_of {x : MX} {R : KD} {Q : VK} (s : St0 T K W ρ σ S E ς H) (h : wpE c x E σ S R) (k : ∀ d S1 ρ1 H1 v, R d S1 → Ext K ρ S.length H ρ1 S1.length H1 → Wd T K ρ1 S1 H1 → RD K ρ1 S1.length H1 d v → Q v H1) : tE T K c W x ς H Q :=
  ⟨ρ, σ, S, E, s, wpE_mono hc x h (fun d S1 r ρ' H' v e w rd => k d S1 ρ' H' v r e w rd) fun _ _ z => z⟩
theorem tT_of {x : MX} {R : KD} {Q : Bool → Hp → Prop} (s : St0 T K W ρ σ S E ς H) (h : wpE c x E σ S R) (k : ∀ d S1, R d S1 → truK S1 d fun b => ∀ ρ1 H1, Ext K ρ S.length H ρ1 S1.length H1 → Wd T K ρ1 S1 H1 → Q b H1) : tT T K c W x ς H Q :=
  ⟨ρ, σ, S, E, s, wpE_mono hc x h (fun d S1 r => truK_mono (k d S1 r) fun b z ρ' H' e w => z ρ' H' e w) fun _ _ z => z⟩
theorem tA_of {x : MXs} {R : List D → Sto → Prop} {Q : List V → Hp → Prop} (s : St0 T K W ρ σ S E ς H) (h : wpEs c x E σ S R) (k : ∀ d S1 ρ1 H1 v, R d S1 → Ext K ρ S.length H ρ1 S1.length H1 → Wd T K ρ1 S1 H1 → RDs K ρ1 S1.length H1 d v → Q v H1) : tA T K c W x ς H Q :=
  ⟨ρ, σ, S, E, s, wpEs_mono hc x h (fun d S1 r ρ' H' v e w rd => k d S1 ρ' H' v r e w rd) fun _ _ z => z⟩
theorem tO_of {x : MXo} {R : Option Int → Sto → Prop} {Q : Option Int → Hp → Prop} (s : St0 T K W ρ σ S E ς H) (h : wpO c x E σ S R) (k : ∀ d S1 ρ1 H1, R d S1 → Ext K ρ S.length H ρ1 S1.length H1 → Wd T K ρ1 S1 H1 → Q d H1) : tO T K c W x ς H Q :=
  ⟨ρ, σ, S, E, s, wpO_mono hc x h (fun d S1 r ρ' H' e w => k d S1 ρ' H' r e w) fun _ _ z => z⟩
theorem tFs_of {x : MXs} {R : Bool → Sto → Prop} {Q : Bool → Hp → Prop} (s : St0 T K W ρ σ S E ς H) (h : wpIfs c x E σ S R) (k : ∀ d S1 ρ1 H1, R d S1 → Ext K ρ S.length H ρ1 S1.length H1 → Wd T K ρ1 S1 H1 → Q d H1) : tFs T K c W x ς H Q :=
  ⟨ρ, σ, S, E, s, wpIfs_mono hc x h (fun d S1 r ρ' H' e w => k d S1 ρ' H' r e w) fun _ _ z => z⟩
end

theorem cop_of' {T : Tbl} {K : PySem.W.Frag} {wo : World} {ρ : Nat → Addr} {S : Sto} {H : Hp} {Q : VK} (tw : T.w = wo) {op : Cop} {x y : D} {v u : V} (w : Wd T K ρ S H) (r : RD K ρ S.length H x v) (r' : RD K ρ S.length H y u) (h : wpCmp op x y S (Pst T K ρ S.length H Q)) : copR K wo op v u H Q := by
  subst tw
  exact cop_of w r r' h
theorem ix_of' {T : Tbl} {K : PySem.W.Frag} {wo : World} {ρ : Nat → Addr} {S : Sto} {H : Hp} {Q : VK} (tw : T.w = wo) {x y : D} {v u : V} (w : Wd T K ρ S H) (r : RD K ρ S.length H x v) (r' : RD K ρ S.length H y u) (h : wpIx x y S (Pst T K ρ S.length H Q)) : rIxW K wo v u H Q := by
  subst tw
  exact ix_of w r r' h
theorem impE {X : Cx} {e : Expr} {t t' : TE} (h : PE X e t) (i : ∀ ς H Q, t' ς H Q → t ς H Q) : PE X e t' := ⟨fun pins s ς H Q I q => h.run pins s ς H Q I (i ς H Q q)⟩
theorem impT {X : Cx} {e : Expr} {t t' : TT} (h : PT X e t) (i : ∀ ς H Q, t' ς H Q → t ς H Q) : PT X e t' := ⟨fun pins s ς H Q I q => h.run pins s ς H Q I (i ς H Q q)⟩
theorem impW {X : Cx} {e : Expr} {t t' : TT} (h : PW X e t) (i : ∀ ς H Q, t' ς H Q → t ς H Q) : PW X e t' := ⟨fun wh pins s ς H Q I q => h.run wh pins s ς H Q I (i ς H Q q)⟩
theorem impA {X : Cx} {e : List Expr} {t t' : TA} (h : PA X e t) (i : ∀ ς H Q, t' ς H Q → t ς H Q) : PA X e t' := ⟨fun pos pins s ς H Q I q => h.run pos pins s ς H Q I (i ς H Q q)⟩
theorem impO {X : Cx} {e : Option Expr} {t t' : TO} (h : PO X e t) (i : ∀ ς H Q, t' ς H Q → t ς H Q) : PO X e t' := ⟨fun pins s ς H Q I q => h.run pins s ς H Q I (i ς H Q q)⟩
theorem impTs {X : Cx} {e : List Expr} {t t' : TT} (h : PTs X e t) (i : ∀ ς H Q, t' ς H Q → t ς H Q) : PTs X e t' := ⟨fun pins s ς H Q I q => h.run pins s ς H Q I (i ς H Q q)⟩
theorem impS {X : Cx} {e : Stmt} {t t' : TS} (h : PS X e t) (i : ∀ D ς H, t' D ς H → t D ς H) : PS X e t' := ⟨fun pins s ς H D I q => h.run pins s ς H D I (i D ς H q)⟩
theorem impSs {X : Cx} {e : List Stmt} {t t' : TS} (h : PSs X e t) (i : ∀ D ς H, t' D ς H → t D ς H) : PSs X e t' := ⟨fun pins s ς H D I q => h.run pins s ς H D I (i D ς H q)⟩

theorem wpEq_bl {neg : Bool} {x y : D} {S : Sto} {Q : KD} (h : wpEq neg x y S Q) : wpEq neg x y S fun v S' => (∃ k, v = .bl k) ∧ Q v S' := by
  unfold wpEq at *
  split at h <;> first | exact ⟨⟨_, rfl⟩, h⟩ | (rcases h with ⟨d, e, a, b, c, f, q⟩ | ⟨a, b, kvs, h1, h2, h3, h4, h5, h6, q⟩; exact .inl ⟨d, e, a, b, c, f, ⟨_, rfl⟩, q⟩; exact .inr ⟨a, b, kvs, h1, h2, h3, h4, h5, h6, ⟨_, rfl⟩, q⟩)
theorem wpIn_bl {neg : Bool} {x y : D} {S : Sto} {Q : KD} (h : wpIn neg x y S Q) : wpIn neg x y S fun v S' => (∃ k, v = .bl k) ∧ Q v S' := by
  unfold wpIn at *
  split at h
  · exact ⟨h.1, h.2.1, ⟨_, rfl⟩, h.2.2⟩
  · split at h
    · rcases h with h | ⟨d, e, a, b, c, f, q⟩
      · exact .inl ⟨h.1, h.2.1, ⟨_, rfl⟩, h.2.2⟩
      · exact .inr ⟨d, e, a, b, c, f, ⟨_, rfl⟩, q⟩
    · split at h
      · exact ⟨⟨_, rfl⟩, h⟩
      · exact h
    · split at h
      · exact ⟨⟨_, rfl⟩, h⟩
      · exact h
    · exact h
  · split at h
    · exact ⟨⟨_, rfl⟩, h⟩
    · exact h
  · exact h
theorem wpCmp_bl {op : Cop} {x y : D} {S : Sto} {Q : KD} (h : wpCmp op x y S Q) : wpCmp op x y S fun v S' => (∃ k, v = .bl k) ∧ Q v S' := by
  unfold wpCmp at *
  split at h <;> first | exact ⟨⟨_, rfl⟩, h⟩ | exact wpEq_bl h | exact wpIn_bl h | exact h | (obtain ⟨ds, es, h1, h2, h3, h4, h⟩ := h; exact ⟨ds, es, h1, h2, h3, h4, ⟨_, rfl⟩, h⟩)
theorem truB {x : D} {S : Sto} {k : Bool} {P : Bool → Prop} (h : truK S x P) (e : tru S x = some k) : P k := by
  unfold truK at h
  rw [e] at h
  exact h
theorem truK_bl {S : Sto} {b : Bool} {P : Bool → Prop} : truK S (.bl b) P = P b := rfl
theorem truK_iff {x : D} {S : Sto} {P : Bool → Prop} (h : truK S x P) : ∃ k, tru S x = some k ∧ P k := by
  unfold truK at h
  split at h
  · rename_i k e; exact ⟨k, e, h⟩
  · exact h.elim
theorem nb {op : CmpOp} (b : Expr) (h : (match b with | .Set _ _ _ => false | _ => true) = true) : behindInMarks op b = false := by
  cases b <;> first | rfl | (simp at h)
/-! ### constants, names -/
section
variable {X : Cx} {T : Tbl} {c : CallT} {W : WX} {pos : Pos}
theorem sd_int {i : Int} {j : Nat} : PE X (.Constant (.int i) j pos) (tE T X.K c W (.int i)) := impE pe_int fun ς H Q ⟨ρ, σ, S, E, s, h⟩ => Pst.here s.wd (show Pst T X.K ρ S.length H Q (.int i) S from h) (.int i)
theorem sd_bl {i : Bool} {j : Nat} : PE X (.Constant (.bool i) j pos) (tE T X.K c W (.bl i)) := impE pe_bl fun ς H Q ⟨ρ, σ, S, E, s, h⟩ => Pst.here s.wd (show Pst T X.K ρ S.length H Q (.bl i) S from h) (.bl i)
theorem sd_non {j : Nat} : PE X (.Constant .none j pos) (tE T X.K c W .non) := impE pe_non fun ς H Q ⟨ρ, σ, S, E, s, h⟩ => Pst.here s.wd (show Pst T X.K ρ S.length H Q .non S from h) .non
theorem sd_str {i : Str} {j : Nat} : PE X (.Constant (.str i) j pos) (tE T X.K c W (.str i)) := impE pe_str fun ς H Q ⟨ρ, σ, S, E, s, h⟩ => Pst.here s.wd (show Pst T X.K ρ S.length H Q (.str i) S from h) (.str i)
theorem sd_var {i : Nat} {x : Str} (hN : X.N[i]? = some x) (hv : Vis X.env.scope x) (hd : (x == ("__debug__" : Str)) = false) (hcd : (x == ("__classdict__" : Str)) = false) : PE X (.Name x pos) (tE T X.K c W (.var i)) := impE (pe_var hN hv hd hcd) fun ς H Q ⟨ρ, σ, S, E, s, h⟩ => by
  unfold wpE at h
  split at h
  · rename_i v e
    obtain ⟨u, e1, r⟩ := s.er.at_ i v e
    exact ⟨u, e1, Pst.here s.wd h r⟩
  · exact h.elim

/-! ### operators -/
variable (hc : CallMono c c) {a b d e : Expr} {xa xb xd : MX} {es : List Expr} {xs : MXs}
include hc
theorem sd_bin {op : Bop} (ha : PE X a (tE T X.K c W xa)) (hb : PE X b (tE T X.K c W xb)) : PE X (.BinOp a (bopOf op) b pos) (tE T X.K c W (.bin op xa xb)) := impE (pe_op (bop_ok op) ha hb) fun ς H Q ⟨ρ, σ, S, E, s, h⟩ => by
  unfold wpE at h
  exact tE_of hc s h fun x S1 ρ1 H1 v h1 e1 w1 r1 => tE_of hc (s.next e1 w1) h1 fun y S2 ρ2 H2 u h2 e2 w2 r2 => bop_of w2 (r1.ext e2) r2 (wpBin_mono h2 fun d S' q => q.ext (e1.trans e2))
theorem sd_neg (ha : PE X a (tE T X.K c W xa)) : PE X (.UnaryOp .USub a pos) (tE T X.K c W (.neg xa)) := impE (pe_un un_neg ha) fun ς H Q ⟨ρ, σ, S, E, s, h⟩ => by
  unfold wpE at h
  refine tE_of hc s h fun x S1 ρ1 H1 v h1 e1 w1 r1 => ?_
  cases r1 with
  | int i => exact ⟨i, rfl, (Pst.ext e1 h1).here w1 (.int _)⟩
  | _ => exact h1.elim
theorem sd_cmp (tw : T.w = X.w) {op : Cop} (hu : X.A.units + 65 < cLine) (hm : behindInMarks (copOf op) b = false) (ha : PE X a (tE T X.K c W xa)) (hb : PE X b (tE T X.K c W xb)) : PE X (.Compare a [copOf op] [b] pos) (tE T X.K c W (.cmp op xa xb)) := impE (pe_cmpR (cop_ok hu op) ha hb hm) fun ς H Q ⟨ρ, σ, S, E, s, h⟩ => by
  unfold wpE at h
  exact tE_of hc s h fun x S1 ρ1 H1 v h1 e1 w1 r1 => tE_of hc (s.next e1 w1) h1 fun y S2 ρ2 H2 u h2 e2 w2 r2 => cop_of' tw w2 (r1.ext e2) r2 (wpCmp_mono h2 fun d S' q => q.ext (e1.trans e2))
theorem sd_cmpT (tw : T.w = X.w) {op : Cop} (hu : X.A.units + 65 < cLine) (hm : behindInMarks (copOf op) b = false) (ha : PE X a (tE T X.K c W xa)) (hb : PE X b (tE T X.K c W xb)) : PT X (.Compare a [copOf op] [b] pos) (tT T X.K c W (.cmp op xa xb)) := impT (pt_cmpR (cop_ok hu op) ha hb hm) fun ς H Q ⟨ρ, σ, S, E, s, h⟩ => by
  unfold wpE at h
  refine tE_of hc s h fun x S1 ρ1 H1 v h1 e1 w1 r1 => tE_of hc (s.next e1 w1) h1 fun y S2 ρ2 H2 u h2 e2 w2 r2 => cop_of' tw (Q := fun x H' => ∃ k, x = V.bl k ∧ Q k H') w2 (r1.ext e2) r2 (wpCmp_mono (wpCmp_bl h2) fun d S' ⟨⟨k, ek⟩, q⟩ ρ' H' v' e' w' r' => ?_)
  subst ek
  cases r'
  exact ⟨k, rfl, q ρ' H' ((e1.trans e2).trans e') w'⟩
theorem sd_chain (tw : T.w = X.w) {op op' : Cop} (hu : X.A.units + 65 < cLine) (hm : lastMarks [copOf op, copOf op'] [b, d] = false) (ha : PE X a (tE T X.K c W xa)) (hb : PE X b (tE T X.K c W xb)) (hd : PE X d (tE T X.K c W xd)) : PE X (.Compare a [copOf op, copOf op'] [b, d] pos) (tE T X.K c W (.chain op op' xa xb xd)) := impE (pe_chain (cop_ok hu op) (cop_ok hu op') ha hb hd hm) fun ς H Q ⟨ρ, σ, S, E, s, h⟩ => by
  unfold wpE at h
  refine tE_of hc s h fun x S1 ρ1 H1 v h1 e1 w1 r1 => tE_of hc (s.next e1 w1) h1 fun y S2 ρ2 H2 u h2 e2 w2 r2 => cop_of' tw (Q := fun z H3 => ∃ k, z = V.bl k ∧ (if k = true then tE T X.K c W xd ς H3 fun w' H4 => copR X.K X.w op' u w' H4 Q else Q (.bl false) H3)) w2 (r1.ext e2) r2 (wpCmp_mono (wpCmp_bl h2) fun d S' ⟨⟨k, ek⟩, q⟩ ρ' H' v' e' w' r' => ?_)
  subst ek
  cases r'
  refine ⟨k, rfl, ?_⟩
  cases k with
  | true =>
    exact tE_of hc ((s.next (e1.trans e2) w2).next e' w') q fun z S4 ρ4 H4 t h4 e4 w4 r4 => cop_of' tw w4 ((r2.ext e').ext e4) r4 (wpCmp_mono (wpCmp_bl h4) fun d' S5 ⟨⟨k', ek'⟩, q'⟩ => by
      subst ek'
      exact Pst.ext (((e1.trans e2).trans e').trans e4) q')
  | false => exact (Pst.ext ((e1.trans e2).trans e') q).here w' (.bl _)
theorem sd_chainT (tw : T.w = X.w) {op op' : Cop} (hu : X.A.units + 65 < cLine) (hm : lastMarks [copOf op, copOf op'] [b, d] = false) (ha : PE X a (tE T X.K c W xa)) (hb : PE X b (tE T X.K c W xb)) (hd : PE X d (tE T X.K c W xd)) : PT X (.Compare a [copOf op, copOf op'] [b, d] pos) (tT T X.K c W (.chain op op' xa xb xd)) := impT (pt_chain (cop_ok hu op) (cop_ok hu op') ha hb hd hm) fun ς H Q ⟨ρ, σ, S, E, s, h⟩ => by
  unfold wpE at h
  refine tE_of hc s h fun x S1 ρ1 H1 v h1 e1 w1 r1 => tE_of hc (s.next e1 w1) h1 fun y S2 ρ2 H2 u h2 e2 w2 r2 => cop_of' tw (Q := fun z H3 => ∃ k, z = V.bl k ∧ (if k = true then tE T X.K c W xd ς H3 fun w' H4 => copR X.K X.w op' u w' H4 fun z H' => ∃ k, z = V.bl k ∧ Q k H' else ∃ k', V.bl false = V.bl k' ∧ Q k' H3)) w2 (r1.ext e2) r2 (wpCmp_mono (wpCmp_bl h2) fun d S' ⟨⟨k, ek⟩, q⟩ ρ' H' v' e' w' r' => ?_)
  subst ek
  cases r'
  refine ⟨k, rfl, ?_⟩
  cases k with
  | true =>
    exact tE_of hc ((s.next (e1.trans e2) w2).next e' w') q fun z S4 ρ4 H4 t h4 e4 w4 r4 => cop_of' tw (Q := fun z H' => ∃ k, z = V.bl k ∧ Q k H') w4 ((r2.ext e').ext e4) r4 (wpCmp_mono (wpCmp_bl h4) fun d' S5 ⟨⟨k', ek'⟩, q'⟩ ρ5 H5 v5 e5 w5 r5 => by
      subst ek'
      cases r5
      exact ⟨k', rfl, q' ρ5 H5 ((((e1.trans e2).trans e').trans e4).trans e5) w5⟩)
  | false => exact ⟨false, rfl, q _ _ ((e1.trans e2).trans e') w'⟩

/-! ### and, or, not, if else -/
theorem sd_and {rest : List Expr} (ha : PE X a (tE T X.K c W xa)) (hb : PE X (.BoolOp .And (b :: rest) pos) (tE T X.K c W xb)) : PE X (.BoolOp .And (a :: b :: rest) pos) (tE T X.K c W (.and xa xb)) := impE (pe_andT ha hb) fun ς H Q ⟨ρ, σ, S, E, s, h⟩ => by
  unfold wpE at h
  refine tE_of hc s h fun x S1 ρ1 H1 v h1 e1 w1 r1 => ?_
  obtain ⟨k, tk, h1⟩ := truK_of w1 r1 h1
  refine ⟨k, tk, ?_⟩
  cases k with
  | true => exact tE_of hc (s.next e1 w1) h1 fun y S2 ρ2 H2 u h2 e2 w2 r2 => (Pst.ext (e1.trans e2) h2).here w2 r2
  | false => exact (Pst.ext e1 h1).here w1 r1
theorem sd_or {rest : List Expr} (ha : PE X a (tE T X.K c W xa)) (hb : PE X (.BoolOp .Or (b :: rest) pos) (tE T X.K c W xb)) : PE X (.BoolOp .Or (a :: b :: rest) pos) (tE T X.K c W (.or xa xb)) := impE (pe_orT ha hb) fun ς H Q ⟨ρ, σ, S, E, s, h⟩ => by
  unfold wpE at h
  refine tE_of hc s h fun x S1 ρ1 H1 v h1 e1 w1 r1 => ?_
  obtain ⟨k, tk, h1⟩ := truK_of w1 r1 h1
  refine ⟨k, tk, ?_⟩
  cases k with
  | false => exact tE_of hc (s.next e1 w1) h1 fun y S2 ρ2 H2 u h2 e2 w2 r2 => (Pst.ext (e1.trans e2) h2).here w2 r2
  | true => exact (Pst.ext e1 h1).here w1 r1
theorem sd_not (ha : PE X a (tE T X.K c W xa)) : PE X (.UnaryOp .Not a pos) (tE T X.K c W (.not xa)) := impE (pe_notT ha) fun ς H Q ⟨ρ, σ, S, E, s, h⟩ => by
  unfold wpE at h
  refine tE_of hc s h fun x S1 ρ1 H1 v h1 e1 w1 r1 => ?_
  obtain ⟨k, tk, h1⟩ := truK_of w1 r1 h1
  exact ⟨k, tk, (Pst.ext e1 h1).here w1 (.bl _)⟩
theorem sd_andT {rest : List Expr} (ha : PT X a (tT T X.K c W xa)) (hb : PW X (.BoolOp .And (b :: rest) pos) (tT T X.K c W xb)) : PW X (.BoolOp .And (a :: b :: rest) pos) (tT T X.K c W (.and xa xb)) := impW (pw_and ha hb) fun ς H Q ⟨ρ, σ, S, E, s, h⟩ => by
  unfold wpE at h
  refine tT_of hc s h fun x S1 h1 => truK_mono (K := fun k => truK S1 x fun k' => k' = k ∧ (if k = true then wpE c xb E σ S1 (fun v S' => truK S' v fun k => PstB T X.K ρ S.length H Q k S') else PstB T X.K ρ S.length H Q k S1)) ?_ fun k h2 ρ1 H1 e1 w1 => ?_
  · obtain ⟨k, ek, q⟩ := truK_iff h1
    unfold truK
    rw [ek]
    refine ⟨rfl, ?_⟩
    cases k with
    | true => exact q
    | false => exact truB q ek
  · obtain ⟨k', ek, rfl, q⟩ := truK_iff h2
    cases k' with
    | true => exact tT_of hc (s.next e1 w1) q fun y S2 h3 => truK_mono h3 fun b q ρ2 H2 e2 w2 => q ρ2 H2 (e1.trans e2) w2
    | false => exact q ρ1 H1 e1 w1
theorem sd_orT {rest : List Expr} (ha : PT X a (tT T X.K c W xa)) (hb : PW X (.BoolOp .Or (b :: rest) pos) (tT T X.K c W xb)) : PW X (.BoolOp .Or (a :: b :: rest) pos) (tT T X.K c W (.or xa xb)) := impW (pw_or ha hb) fun ς H Q ⟨ρ, σ, S, E, s, h⟩ => by
  unfold wpE at h
  refine tT_of hc s h fun x S1 h1 => truK_mono (K := fun k => truK S1 x fun k' => k' = k ∧ (if k = true then PstB T X.K ρ S.length H Q k S1 else wpE c xb E σ S1 (fun v S' => truK S' v fun k => PstB T X.K ρ S.length H Q k S'))) ?_ fun k h2 ρ1 H1 e1 w1 => ?_
  · obtain ⟨k, ek, q⟩ := truK_iff h1
    unfold truK
    rw [ek]
    refine ⟨rfl, ?_⟩
    cases k with
    | false => exact q
    | true => exact truB q ek
  · obtain ⟨k', ek, rfl, q⟩ := truK_iff h2
    cases k' with
    | false => exact tT_of hc (s.next e1 w1) q fun y S2 h3 => truK_mono h3 fun b q ρ2 H2 e2 w2 => q ρ2 H2 (e1.trans e2) w2
    | true => exact q ρ1 H1 e1 w1
theorem sd_notT (ha : PT X a (tT T X.K c W xa)) : PT X (.UnaryOp .Not a pos) (tT T X.K c W (.not xa)) := impT (pt_not ha) fun ς H Q ⟨ρ, σ, S, E, s, h⟩ => by
  unfold wpE at h
  exact tT_of hc s h fun x S1 h1 => truK_mono h1 fun k q ρ1 H1 e1 w1 => q ρ1 H1 e1 w1
theorem sd_truth (ha : PE X a (tE T X.K c W xa)) (he : ∀ whole, isTrue a X.env whole = (do let v ← whole; standAt a.pos; holding [v] (truthy v))) : PT X a (tT T X.K c W xa) := impT (pt_truth ha he) fun ς H Q ⟨ρ, σ, S, E, s, h⟩ => by
  refine tE_of hc s h fun x S1 ρ1 H1 v h1 e1 w1 r1 => ?_
  obtain ⟨k, tk, q⟩ := truK_of w1 r1 h1
  exact ⟨k, tk, q _ _ e1 w1⟩
theorem sd_ite (hd : PT X d (tT T X.K c W xd)) (ha : PE X a (tE T X.K c W xa)) (hb : PE X b (tE T X.K c W xb)) : PE X (.IfExp d a b pos) (tE T X.K c W (.ite xd xa xb)) := impE (pe_ifExp hd ha hb) fun ς H Q ⟨ρ, σ, S, E, s, h⟩ => by
  unfold wpE at h
  refine tT_of hc s h fun x S1 h1 => truK_mono h1 fun k q ρ1 H1 e1 w1 => ?_
  cases k with
  | true => exact tE_of hc (s.next e1 w1) q fun y S2 ρ2 H2 u h2 e2 w2 r2 => (Pst.ext (e1.trans e2) h2).here w2 r2
  | false => exact tE_of hc (s.next e1 w1) q fun y S2 ρ2 H2 u h2 e2 w2 r2 => (Pst.ext (e1.trans e2) h2).here w2 r2

/-! ### subscripts, displays -/
theorem sd_ix (tw : T.w = X.w) (hu : X.A.units + 65 < cLine) (hs : PlainIx b) (ha : PE X a (tE T X.K c W xa)) (hb : PE X b (tE T X.K c W xb)) : PE X (.Subscript a b pos) (tE T X.K c W (.ix xa xb)) := impE (pe_ix (ixw_ok (by omega)) ha hb hs) fun ς H Q ⟨ρ, σ, S, E, s, h⟩ => by
  unfold wpE at h
  exact tE_of hc s h fun x S1 ρ1 H1 v h1 e1 w1 r1 => tE_of hc (s.next e1 w1) h1 fun y S2 ρ2 H2 u h2 e2 w2 r2 => ix_of' tw w2 (r1.ext e2) r2 (wpIx_mono h2 fun d S' q => q.ext (e1.trans e2))
theorem sd_no : PO X none (tO T X.K c W .no) := impO po_none fun ς H Q ⟨ρ, σ, S, E, s, h⟩ => (show PstO T X.K ρ S.length H Q none S from h) ρ H Ext.refl s.wd
theorem sd_so (ha : PE X a (tE T X.K c W xa)) : PO X (some a) (tO T X.K c W (.so xa)) := impO (po_some ha) fun ς H Q ⟨ρ, σ, S, E, s, h⟩ => by
  unfold wpO at h
  refine tE_of hc s h fun x S1 ρ1 H1 v h1 e1 w1 r1 => ?_
  cases r1 with
  | int i => exact ⟨i, rfl, h1 _ _ e1 w1⟩
  | _ => exact h1.elim
theorem sd_sl {lo hi : Option Expr} {xl xh : MXo} {p2 : Pos} (ha : PE X a (tE T X.K c W xa)) (hl : PO X lo (tO T X.K c W xl)) (hh : PO X hi (tO T X.K c W xh)) : PE X (.Subscript a (.Slice lo hi none p2) pos) (tE T X.K c W (.sl xa xl xh)) := impE (pe_slice sl_ok ha hl hh) fun ς H Q ⟨ρ, σ, S, E, s, h⟩ => by
  unfold wpE at h
  exact tE_of hc s h fun x S1 ρ1 H1 v h1 e1 w1 r1 => tO_of hc (s.next e1 w1) h1 fun l S2 ρ2 H2 h2 e2 w2 => tO_of hc (s.next (e1.trans e2) w2) h2 fun u S3 ρ3 H3 h3 e3 w3 => sl_of w3 ((r1.ext e2).ext e3) (wpSl_mono h3 fun d S' q => q.ext ((e1.trans e2).trans e3))
theorem sd_nil : PA X [] (tA T X.K c W .nil) := impA pa_nil fun ς H Q ⟨ρ, σ, S, E, s, h⟩ => (show PstL T X.K ρ S.length H Q [] S from h) ρ H [] Ext.refl s.wd .nil
theorem sd_cons (ha : PE X e (tE T X.K c W xa)) (hr : PA X es (tA T X.K c W xs)) (hs : starEach (e :: es) X.env = (false, eval e X.env) :: starEach es X.env) : PA X (e :: es) (tA T X.K c W (.cons xa xs)) := impA (pa_cons ha hr hs) fun ς H Q ⟨ρ, σ, S, E, s, h⟩ => by
  unfold wpEs at h
  exact tE_of hc s h fun x S1 ρ1 H1 v h1 e1 w1 r1 => tA_of hc (s.next e1 w1) h1 fun y S2 ρ2 H2 u h2 e2 w2 r2 => h2 _ _ _ (e1.trans e2) w2 (.cons (r1.ext e2) r2)
theorem sd_tup {k : Nat} (hr : PA X es (tA T X.K c W xs)) : PE X (.Tuple es k pos) (tE T X.K c W (.tup xs)) := impE (pe_tupN hr) fun ς H Q ⟨ρ, σ, S, E, s, h⟩ => by
  unfold wpE at h
  exact tA_of hc s h fun y S2 ρ2 H2 u h2 e2 w2 r2 => ⟨by rw [← r2.length]; exact h2.1, (Pst.ext e2 h2.2).tup w2 r2⟩
theorem sd_lst (hr : PA X es (tA T X.K c W xs)) : PE X (.List es pos) (tE T X.K c W (.lst xs)) := impE (pe_lst hr) fun ς H Q ⟨ρ, σ, S, E, s, h⟩ => by
  unfold wpE at h
  exact tA_of hc s h fun y S2 ρ2 H2 u h2 e2 w2 r2 => ⟨by rw [← r2.length]; exact h2.1, fun p hp => (Pst.ext e2 h2.2).lst w2 r2 hp⟩
/-- a clause's tests -/
theorem sd_ifs0 : PTs X [] (tFs T X.K c W .nil) := impTs pts_nil fun ς H Q ⟨ρ, σ, S, E, s, h⟩ => (show PstB T X.K ρ S.length H Q true S from h) ρ H Ext.refl s.wd
theorem sd_ifs1 (ha : PT X a (tT T X.K c W xa)) : PTs X [a] (tFs T X.K c W (.cons xa .nil)) := impTs (pts_one ha) fun ς H Q ⟨ρ, σ, S, E, s, h⟩ => by
  unfold wpIfs at h
  refine tT_of hc s h fun x S1 h1 => truK_mono h1 fun k q ρ1 H1 e1 w1 => ?_
  cases k with
  | true => exact (show PstB T X.K ρ S.length H Q true S1 from q) _ _ e1 w1
  | false => exact q _ _ e1 w1

/-! ### calls of defs -/
theorem sd_call {x : Str} {p : Pos} {k f : Nat} {fa : Addr} {fd : FuncData} {ps : List Str} (F : FnOk X.prog X.w X.K X.mg X.base (L2.CX X.prog X.w) k fa fd ps (spM T X.K c f ps.length)) (hr : Room k X.A) (hg : Gl X x) (hm : X.mg x = some (.ref fa)) (hk : PySem.W.keepIn X.K (.ref fa) = true) (hb : Binds X.K fd ps []) (tk : Takes X W)
    (hlen : ∀ σ S E Q, wpEs c xs E σ S Q → wpEs c xs E σ S fun vs S' => vs.length = ps.length ∧ Q vs S') (ha : PA X (e :: es) (tA T X.K c W xs)) (hdb : (x == ("__debug__" : Str)) = false) (he : starEach (e :: es) X.env = (false, eval e X.env) :: starEach es X.env) (hpl : (backTo pos (starEach es X.env)).any (·.1) = false) :
    PE X (.Call (.Name x p) (e :: es) [] pos) (tE T X.K c W (.call f xs)) := impE (pe_callS F hr hg hm hk hb (fun σ => passAt tk σ) ha hdb he hpl) fun ς H Q ⟨ρ, σ, S, E, s, h⟩ => by
  unfold wpE at h
  refine tA_of hc s (hlen _ _ _ _ h) fun y S2 ρ2 H2 u h2 e2 w2 r2 => ?_
  exact ⟨ρ2, S2, y, E, w2, by simpa using r2, h2.1, fun x S' hx ρ' H' cl d e' w' r' => s.ex x S' hx ρ' H' cl d (e2.trans e') w' r', hc _ _ _ _ _ _ _ h2.2 (fun d S' q => Pst.ext e2 q) fun _ _ z => z⟩
omit hc in
theorem sd_call0 {x : Str} {p : Pos} {k f : Nat} {fa : Addr} {fd : FuncData} (F : FnOk X.prog X.w X.K X.mg X.base (L2.CX X.prog X.w) k fa fd [] (spM T X.K c f 0)) (hr : Room k X.A) (hg : Gl X x) (hm : X.mg x = some (.ref fa)) (hk : PySem.W.keepIn X.K (.ref fa) = true) (hb : Binds X.K fd [] []) (tk : Takes X W) (hdb : (x == ("__debug__" : Str)) = false) :
    PE X (.Call (.Name x p) [] [] pos) (tE T X.K c W (.call f .nil)) := by
  refine ⟨fun pins s ς H Q I ⟨ρ, σ, S, E, st, h⟩ => ?_⟩
  simp only [wpE, wpEs] at h
  refine wpAny_Call_Name_kw (ld_glob I hg hm ?_ hdb)
  exact PySem.W.callWith_K0 I.kIn hk (run_fnS (us := []) (vs := []) (E := WE W) F hr hb (passAt tk ς) I .nil ⟨ρ, S, [], E, st.wd, .nil, rfl, fun x S' hx ρ' H' cl d e' w' r' => st.ex x S' hx ρ' H' cl d e' w' r', h⟩)
/-! ### a def as a value -/
omit hc in
theorem sd_fnv {x : Str} {fa : Addr} (hg : Gl X x) (hm : X.mg x = some (.ref fa)) (hn : PySem.W.nsIn X.K mainGlobals x = some (some (.ref fa))) (hdb : (x == ("__debug__" : Str)) = false) : PE X (.Name x pos) (tE T X.K c W (.fnv x)) := by
  refine ⟨fun pins s ς H Q I ⟨ρ, σ, S, E, st, h⟩ => ?_⟩
  simp only [wpE] at h
  exact ld_glob I hg hm ⟨.ref fa, H, I, rfl, Pst.here st.wd h (.fn hn)⟩ hdb
/-! ### what a name of the module holds -/
omit hc in
theorem sd_cst {x : Str} {d : D} {v : V} {u : Value} (hg : Gl X x) (hm : X.mg x = some u) (hr : RelV v u) (rd : ∀ ρ n H, RD X.K ρ n H d v) (hdb : (x == ("__debug__" : Str)) = false) : PE X (.Name x pos) (tE T X.K c W (.cst d)) := by
  refine impE (pe_glob hg hm hr hdb) fun ς H Q ⟨ρ, σ, S, E, st, h⟩ => ?_
  simp only [wpE] at h
  exact Pst.here st.wd h (rd _ _ _)
/-- what is known of the defs that a name may hold -/
structure HeldF (T : Tbl) (X : Cx) (c : CallT) (k n : Nat) (x : Str) (f : Nat) : Prop where
  ex : ∃ fa fd ps, PySem.W.nsIn X.K mainGlobals x = some (some (.ref fa)) ∧ PySem.W.keepIn X.K (.ref fa) = true ∧ Binds X.K fd ps [] ∧ ps.length = n ∧ FnOk X.prog X.w X.K X.mg X.base (L2.CX X.prog X.w) k fa fd ps (spM T X.K c f ps.length)
theorem sd_callv {x : Str} {p : Pos} {k i n : Nat} {fs : List (Str × Nat)} (hr : Room k X.A) (hN : X.N[i]? = some x) (hv : Vis X.env.scope x) (hd : (x == ("__debug__" : Str)) = false) (hcd : (x == ("__classdict__" : Str)) = false) (F : ∀ g f, fs.lookup g = some f → HeldF T X c k n g f) (tk : Takes X W)
    (hlen : ∀ σ S E Q, wpEs c xs E σ S Q → wpEs c xs E σ S fun vs S' => vs.length = n ∧ Q vs S') (ha : PA X (e :: es) (tA T X.K c W xs)) (he : starEach (e :: es) X.env = (false, eval e X.env) :: starEach es X.env) (hpl : (backTo pos (starEach es X.env)).any (·.1) = false) :
    PE X (.Call (.Name x p) (e :: es) [] pos) (tE T X.K c W (.callv i fs xs)) := by
  refine ⟨fun pins s ς H Q I ⟨ρ, σ, S, E, st, h⟩ => ?_⟩
  unfold wpE at h
  split at h
  · rename_i g hg
    split at h
    · rename_i f hf
      obtain ⟨fa, fd, ps, h1, h2, h3, h4, F1⟩ := (F g f hf).ex
      obtain ⟨u0, e1, r0⟩ := st.er.at_ i _ hg
      cases r0 with
      | fn hns =>
        rw [h1] at hns
        cases hns
        have ld := (pe_var (pos := p) hN hv hd hcd).run pins s ς H (fun v H9 => v = .ref fa ∧ H9 = H) I ⟨.ref fa, e1, rfl, rfl⟩
        refine wpAny_Call_Name_kw (thn ld fun u s1 z => ?_)
        obtain ⟨v, H9, I1, r1, rfl, rfl⟩ := z
        cases r1
        have arg := ha.run pos pins s1 ς _ (fun vs H2 => spM T X.K c f ps.length vs H2 Q (WE W ς)) I1 (tA_of hc st (hlen _ _ _ _ h) fun y S2 ρ2 H2 u h2 e2 w2 r2 => ⟨ρ2, S2, y, E, w2, r2, h2.1.trans h4.symm, fun x S' hx ρ' H' cl d e' w' r' => st.ex x S' hx ρ' H' cl d (e2.trans e') w' r', hc _ _ _ _ _ _ _ h2.2 (fun d S' q => Pst.ext e2 q) fun _ _ z => z⟩)
        exact PySem.W.callWith_K (h₀ := X.base) I.ok.mod.kin h2 (thn arg fun us s2 ⟨vs, H2, I2, r, q⟩ => ⟨I2.kIn, run_fnS (E := WE W) F1 hr h3 (passAt tk ς) I2 r q⟩) he hpl
    · exact h.elim
  · exact h.elim
/-! ### new instances -/
section
omit hc in
theorem mk_run {pins : List (Addr × Obj)} {s : Shared} {ς : L2.St} {H : Hp} {Q : VK} {us : List Value} {vs : List V} {k : Nat} {fa C : Addr} {fd : FuncData} {ps : List Str} {sp : Sp} {E' : L2.St → XK} (M : Mk X.K C fa) (F : FnOk X.prog X.w X.K X.mg X.base (L2.CX X.prog X.w) k fa fd ps sp) (hr : Room (k + 1) X.A) (hb : Binds X.K fd ps []) (hx : PassesAt (L2.CX X.prog X.w) X ς (E' ς))
    (I : Inv X pins ς H s) (r : Vals vs us) (h : ∀ x dx, H x = none → H dx = none → dx ≠ x → sp (.ref x :: vs) (upd (upd H dx (.own x)) x (.ins C dx [])) (fun v H2 => v = .non ∧ Q (.ref x) H2) (E' ς)) :
    wpAny (model X.prog X.w) X.A (call (.ref C) us) (EP X pins ς Q) X.xe s := by
  generalize hn : s.heap.objs.size = m
  have fr1 : H (m + 1) = none := I.hok.fresh (by rw [hn]; exact Nat.le_succ _)
  have fr0 : H m = none := I.hok.fresh (by rw [hn]; exact Nat.le_refl _)
  have hq := h (m + 1) m fr1 fr0 (Nat.ne_of_lt (Nat.lt_succ_self _))
  have J := Inv.made (C := C) I
  rw [hn] at J
  have rr : Vals (V.ref (m + 1) :: vs) (Value.ref (m + 1) :: us) := .cons rfl r
  have hlen : ((Value.ref (m + 1) :: us) ++ []).length = ps.length := by
    rw [List.append_nil, ← rr.length]
    exact F.len _ _ _ _ hq
  have bd := hb _ (Value.ref (m + 1) :: us) J.kIn hlen
  rw [List.append_nil] at bd
  have go := F.run _ X.stack _ _ _ _ _ _ (E' ς) (hr.make C us []) (J.env0.make C us []) bd rr hq
  refine wpAny_call (make_map (f := fa) I.kIn M.makes M.init (beq_iff_eq.mp M.fn) ?_)
  rw [hn]
  refine codeAny_mono go fun res s' z => ?_
  match res, z with
  | .error e, z => exact hx pins _ _ e s' J z
  | .ok (.ret u), z =>
    obtain ⟨v, H', K', rv, ⟨ev, q3⟩⟩ := J.after z
    subst ev
    exact ⟨rv, V.ref (m + 1), H', K', rfl, q3⟩
  | .ok .next, z => exact z.elim
  | .ok .brk, z => exact z.elim
  | .ok .cont, z => exact z.elim
theorem sd_make {x : Str} {p : Pos} {k cl : Nat} {fI C : Addr} {fd : FuncData} {fs : List Str} (M : Mk X.K C fI) (F : FnOk X.prog X.w X.K X.mg X.base (L2.CX X.prog X.w) 1 fI fd ("self" :: fs) (spNew C fs)) (ht : T cl = some (C, none)) (hr : Room k X.A) (lv : ∀ S Q E, c exLev [] S Q E → 2 ≤ k ∧ Q .non S) (hg : Gl X x) (hm : X.mg x = some (.ref C)) (hb : Binds X.K fd ("self" :: fs) [])
    (ha : PA X (e :: es) (tA T X.K c W xs)) (hdb : (x == ("__debug__" : Str)) = false) (he : starEach (e :: es) X.env = (false, eval e X.env) :: starEach es X.env) (hpl : (backTo pos (starEach es X.env)).any (·.1) = false) :
    PE X (.Call (.Name x p) (e :: es) [] pos) (tE T X.K c W (.make cl fs xs)) := by
  refine ⟨fun pins s ς H Q I ⟨ρ, σ, S, E, st, h⟩ => ?_⟩
  unfold wpE at h
  obtain ⟨hk, h⟩ := lv _ _ _ h
  have go : PE X (.Call (.Name x p) (e :: es) [] pos) (tMake C (spNew C fs) [] (fun _ _ _ => False) (tA T X.K c W xs)) := pe_make M F (hr.mono hk) hg hm hb .nil passL ha hdb he hpl
  refine go.run pins s ς H Q I ?_
  · refine tA_of hc st h fun y S2 ρ2 H2 u h2 e2 w2 r2 x dx hx hd ne => ?_
    obtain ⟨hl, q⟩ := h2
    have hlu : u.length = fs.length := by rw [← r2.length]; exact hl
    refine ⟨x, dx, u, by rw [List.append_nil], hlu, upd_same, rfl, ?_⟩
    rw [upd_upd]
    have ed : Ext X.K ρ2 S2.length H2 ρ2 S2.length (upd H2 dx (.own x)) := Ext.new hd
    have wd := w2.new (o := .own x) hd
    have hx' : upd H2 dx (.own x) x = none := by rw [upd_ne (Ne.symm ne)]; exact hx
    have en : Ext X.K ρ2 S2.length (upd H2 dx (.own x)) (nxt ρ2 S2.length x) (S2 ++ [O.ins cl (fs.zip y)]).length (upd (upd H2 dx (.own x)) x (.ins C dx (fs.zip u))) := Ext.alloc' hx'
    have z1 : ∀ (l : List Str) (ys : List D) (us : List V), ys.length = l.length → us.length = l.length → (l.zip ys).map Prod.fst = (l.zip us).map Prod.fst ∧ (l.zip ys).map Prod.snd = ys ∧ (l.zip us).map Prod.snd = us := fun l ys us h1 h2 => by
      refine ⟨?_, ?_, ?_⟩
      · rw [List.map_fst_zip (by omega), List.map_fst_zip (by omega)]
      · exact List.map_snd_zip (by omega)
      · exact List.map_snd_zip (by omega)
    obtain ⟨f1, f2, f3⟩ := z1 fs y u hl hlu
    have ea : Ext X.K ρ2 S2.length H2 ρ2 S2.length (upd (upd H2 dx (.own x)) x (.ins C dx (fs.zip u))) := ed.trans (Ext.new hx')
    have er : RO T X.K ρ2 S2.length (upd (upd H2 dx (.own x)) x (.ins C dx (fs.zip u))) (.ins cl (fs.zip y)) x := ⟨C, dx, _, ht, upd_same, by rw [upd_ne ne]; exact upd_same, f1, by rw [f2, f3]; exact r2.ext ea⟩
    have wn := wd.allocO hx' er
    have rs : RD X.K (nxt ρ2 S2.length x) (S2 ++ [O.ins cl (fs.zip y)]).length (upd (upd H2 dx (.own x)) x (.ins C dx (fs.zip u))) (.ref S2.length) (.ref x) := by
      have := RD.ref (K := X.K) (ρ := nxt ρ2 S2.length x) (n := (S2 ++ [O.ins cl (fs.zip y)]).length) (H := upd (upd H2 dx (.own x)) x (.ins C dx (fs.zip u))) (a := S2.length) (by simp)
      rw [nxt_self] at this
      exact this
    exact q _ _ _ ((e2.trans ed).trans en) wn rs
end
end
end MP
/-! MPExp2: built-in calls, methods, ranges, what is walked, targets, comprehensions. -/
namespace MP
open PySem PySem.Spec PyProof.Rows L2

/-! ### built-in functions -/
def bltName : Bl → String
  | .len => "len" | .abs => "abs" | .max => "max" | .min => "min" | .sum => "sum" | .any => "any" | .all => "all" | .int => "int" | .bool => "bool" | .list => "list" | .tuple => "tuple" | .dict => "dict" | .str => "str" | .sorted => "sorted"
def bltTy : Bl → Bool
  | .int => true | .bool => true | .list => true | .tuple => true | .dict => true | .str => true | _ => false
def bltVal (b : Bl) : Value := if bltTy b = true then .type (bltName b) else .builtin (bltName b)
theorem blt_boot (b : Bl) : bootBuiltins (Str.ofString (bltName b)) = some (bltVal b) := by
  cases b <;> decide +kernel
theorem blt_nn (b : Bl) : Str.ofString (bltName b) ≠ "__name__" := by cases b <;> decide +kernel
theorem blt_nd (b : Bl) : (Str.ofString (bltName b) == ("__debug__" : Str)) = false := by cases b <;> decide +kernel
/-! list.extend with a list or a tuple -/
theorem meets_extend (l : Addr) (items : Array Value) (n : Nat) (b : Addr) {T : String} (items2 : Array Value) (hT : T = "list" ∨ T = "tuple") (hlong : (!items.isEmpty && Builtin.List.listTooLong (items.size + items2.size)) = false)
    (hc1 : items.size ≤ sizeLine) (hz : (items ++ items2).size ≤ sizeLine + 1) :
    Meets (Builtin.«list.extend» ⟨[.ref l, .ref b], []⟩) (fun _ R s => s.heap.get? l = some { cls := .type "list", dict := none, data := .seq items n, slots := #[] } ∧
      (∃ o n2, s.heap.get? b = some o ∧ o.cls = .type T ∧ o.data = .seq items2 n2) ∧ R (.ok (.ret Value.none)) { s with heap := s.heap.update l (Obj.mapSeq fun x => x ++ items2), toks := s.toks }) := fun prog w A R s h => by
  obtain ⟨hl, ⟨o, n2, ho, hc, hd⟩, hR⟩ := h
  show wpAny _ A.in1 (Builtin.List.listExtendWith (.ref l) (.ref b) .none) _ _ s
  unfold Builtin.List.listExtendWith
  refine wpAny_bind (wpAny_typeOf ⟨o, ho, hc⟩ ?_)
  have h1 : (Builtin.List.listSameRef (.ref l) (.ref b) || Value.type T == Value.type "list" || Value.type T == Value.type "tuple") = true := by
    rcases hT with rfl | rfl <;> simp
  simp only [h1, if_true]
  refine wpAny_bind ?_
  unfold Builtin.List.listItems
  refine wpAny_bind (wpAny_seqItems ho hd (wpAny_pure ?_))
  refine wpAny_bind ?_
  refine wpAny_bind (wpAny_seqItems hl rfl (wpAny_pure ?_))
  simp only [hlong, Bool.false_eq_true, if_false]
  show wpAny _ A.in1 (updateSeq l (· ++ items2) >>= fun _ => ret .none) _ _ s
  refine wpAny_bind (wpAny_updateSeq hl rfl (hz := hc1) (_hz' := hz) ?_)
  exact wpAny_pure hR
def rExtendG (K : PySem.W.Frag) : V → List V → Hp → VK → Prop := fun x vs H Q => ∃ l b xs zs, x = .ref l ∧ vs = [.ref b] ∧ H l = some (.lst xs) ∧ (H b = some (.lst zs) ∨ SqT K H b zs) ∧ xs.length + zs.length ≤ sizeLine ∧ Q .non (upd H l (.lst (xs ++ zs)))
theorem mt_extendG {X : Cx} : MtM X "list.extend" (rExtendG X.K) := by
  intro pins s σ H x vs v us Q I rx rv h
  obtain ⟨l, b, xs, zs, rfl, rfl, hH, hB, hz, q⟩ := h
  cases rx
  obtain ⟨u, rfl, ru⟩ := rv.one
  cases ru
  obtain ⟨z, its, n, r, hl, e⟩ := I.lstM hH
  obtain ⟨T, its2, o, n2, hT, r2, e2, ec, ed, hl2⟩ : ∃ (T : String) (its2 : List Value) (o : Obj) (n2 : Nat), (T = "list" ∨ T = "tuple") ∧ Vals zs its2 ∧ s.heap.get? b = some o ∧ o.cls = .type T ∧ o.data = .seq its2.toArray n2 ∧ zs.length = its2.length := by
    rcases hB with hB | hB
    · obtain ⟨z2, its2, n2, r2, hl2, e2⟩ := I.lstM hB
      exact ⟨"list", its2, _, n2, .inl rfl, r2, e2, rfl, rfl, hl2⟩
    · obtain ⟨its2, r2, ⟨o, ho, hc, n2, hd⟩, z2⟩ := I.tuple hB
      exact ⟨"tuple", its2, o, n2, .inr rfl, r2, ho, hc, hd, r2.length⟩
  have hsz : its.toArray.size + its2.toArray.size ≤ sizeLine := by rw [List.size_toArray, List.size_toArray]; omega
  have hlong : (!its.toArray.isEmpty && Builtin.List.listTooLong (its.toArray.size + its2.toArray.size)) = false := by
    rw [notLongL hsz, Bool.and_false]
  refine call_meets F.slot_list_extend ⟨_, e, rfl⟩ F.entry_list_extend (F.args_list_extend_2 _ _)
    (meets_extend l its.toArray n b its2.toArray hT hlong (by rw [List.size_toArray]; omega) (by rw [Array.size_append]; omega)) ⟨e, ⟨o, n2, e2, ec, ed⟩, ?_⟩
  refine ⟨.non, _, I.lset (its' := its ++ its2) hH e (by simp) (r.append r2) ?_, rfl, q⟩
  rw [List.length_append]
  omega
section
variable (K : PySem.W.Frag)
def rListOf : List V → Hp → VK → Prop := fun xs H Q => ∃ p ys, xs = [.ref p] ∧ (SqL K H p ys ∨ SqT K H p ys) ∧ ∀ l, H l = none → Q (.ref l) (upd H l (.lst ys))
def rTupleOf : List V → Hp → VK → Prop := fun xs H Q => ∃ p ys, xs = [.ref p] ∧ ((SqL K H p ys ∧ ∀ l, H l = none → Q (.ref l) (upd H l (.tup ys))) ∨ (SqT K H p ys ∧ Q (.ref p) H))
def rLenSeq : List V → Hp → VK → Prop := fun xs H Q => ∃ p ys, xs = [.ref p] ∧ (SqL K H p ys ∨ SqT K H p ys) ∧ Q (.int ys.length) H
def rLenStr : List V → Hp → VK → Prop := fun xs H Q => ∃ z, xs = [.str z] ∧ z.length ≤ sizeLine ∧ Q (.int z.length) H
def rInt1 : List V → Hp → VK → Prop := fun xs H Q => (∃ i, xs = [.int i] ∧ Q (.int i) H) ∨ ∃ k, xs = [.bl k] ∧ Q (.int (if k then 1 else 0)) H
def rBool1 : List V → Hp → VK → Prop := fun xs H Q => (∃ i, xs = [.int i] ∧ Q (.bl (i != 0)) H) ∨ ∃ k, xs = [.bl k] ∧ Q (.bl k) H
def rLenD : List V → Hp → VK → Prop := fun xs H Q => ∃ a kvs, xs = [V.ref a] ∧ H a = some (.dK kvs) ∧ Q (.int kvs.length) H
def rDictOf : List V → Hp → VK → Prop := fun xs H Q => ∃ (a : Addr) (kvs : List (Key × V)), xs = [.ref a] ∧ Rd H a (.dK kvs) ∧ ∀ p, H p = none → Q (.ref p) (upd H p (.dK kvs))
def blR : Bl → List V → Hp → VK → Prop
  | .len => fun xs H Q => rLenSeq K xs H Q ∨ rLenStr xs H Q ∨ rLenD xs H Q
  | .abs => fun xs H Q => ∃ i, xs = [.int i] ∧ Q (.int (if i < 0 then -i else i)) H
  | .max => fun xs H Q => (∃ i j, xs = [.int i, .int j] ∧ Q (.int (if j > i then j else i)) H) ∨ rMax K xs H Q
  | .min => fun xs H Q => (∃ i j, xs = [.int i, .int j] ∧ Q (.int (if j < i then j else i)) H) ∨ rMin K xs H Q
  | .sum => fun xs H Q => rSum K xs H Q ∨ rSumT K xs H Q
  | .sorted => fun xs H Q => rSortedD K xs H Q ∨ rSortedE K xs H Q
  | .any => rAny K
  | .all => rAll K
  | .int => rInt1
  | .bool => rBool1
  | .list => rListOf K
  | .tuple => rTupleN K
  | .dict => fun xs H Q => rDictOf xs H Q ∨ rDictT K xs H Q
  | .str => fun xs H Q => ∃ i, xs = [.int i] ∧ i.natAbs.log2 < 1920 ∧ Q (.str (Str.ofString (toString i))) H
end
theorem blt_ok {X : Cx} (hc : X.calm = true) (hu : X.A.units + 65 < cLine) (b : Bl) : CallR X (bltVal b) (blR X.K b) := by
  cases b with
  | len => exact call_len_seq.or (call_len_str.or call_lenD)
  | abs => exact call_abs
  | max => exact (call_max2 hc).or (cr_max hc)
  | min => exact (call_min2 hc).or (cr_min hc)
  | sum => exact (cr_sum hc).or (cr_sumT hc)
  | sorted => exact (cr_sortedD hu).or (cr_sortedE hu)
  | any => exact cr_any hc
  | all => exact cr_all hc
  | int => exact call_int1
  | bool => exact call_bool1
  | list => exact call_list_of
  | tuple => exact cr_tupleN
  | dict => exact call_dictD.or (cr_dictT hc)
  | str => exact call_str_int
section
variable {K : PySem.W.Frag} {ρ : Nat → Addr} {n : Nat} {S : Sto} {H : Hp} {Q : VK}
theorem intsOf_rd : ∀ {xs : List D} {vs : List V} {ns : List Int}, RDs K ρ n H xs vs → intsOf xs = some ns → vs = ns.map V.int
  | [], _, ns, .nil, h => by
    have e : ns = [] := (Option.some.inj h).symm
    rw [e]; rfl
  | .int i :: r, _, ns, .cons (.int _) t, h => by
    cases e : intsOf r with
    | none => simp [intsOf, e] at h
    | some ms =>
      have e2 : i :: ms = ns := by simpa [intsOf, e] using h
      rw [← e2, intsOf_rd t e]; rfl
  | .non :: _, _, _, _, h => by cases h
  | .bl _ :: _, _, _, _, h => by cases h
  | .str _ :: _, _, _, _, h => by cases h
  | .tup _ :: _, _, _, _, h => by cases h
  | .klst _ :: _, _, _, _, h => by cases h
  | .ref _ :: _, _, _, _, h => by cases h
  | .fn _ :: _, _, _, _, h => by cases h
  | .exc _ _ _ _ :: _, _, _, _, h => by cases h
theorem blsOf_rd : ∀ {xs : List D} {vs : List V} {ns : List Bool}, RDs K ρ n H xs vs → blsOf xs = some ns → vs = ns.map V.bl
  | [], _, ns, .nil, h => by
    have e : ns = [] := (Option.some.inj h).symm
    rw [e]; rfl
  | .bl i :: r, _, ns, .cons (.bl _) t, h => by
    cases e : blsOf r with
    | none => simp [blsOf, e] at h
    | some ms =>
      have e2 : i :: ms = ns := by simpa [blsOf, e] using h
      rw [← e2, blsOf_rd t e]; rfl
  | .non :: _, _, _, _, h => by cases h
  | .int _ :: _, _, _, _, h => by cases h
  | .str _ :: _, _, _, _, h => by cases h
  | .tup _ :: _, _, _, _, h => by cases h
  | .klst _ :: _, _, _, _, h => by cases h
  | .ref _ :: _, _, _, _, h => by cases h
  | .fn _ :: _, _, _, _, h => by cases h
  | .exc _ _ _ _ :: _, _, _, _, h => by cases h
/-- things with their data, and as values -/
theorem pair_up {T : Tbl} {H' : Hp} (w : Wd T K ρ S H') : ∀ {zs : List (D × PyData)} {vs : List V}, (∀ z ∈ zs, Pd S z.1 z.2) → RDs K ρ S.length H' (zs.map Prod.fst) vs →
    ∃ bs : List (V × PyData), bs.map Prod.fst = vs ∧ bs.map Prod.snd = zs.map Prod.snd ∧ (∀ le : PyData → PyData → Bool, RDs K ρ S.length H' ((zs.mergeSort fun a b => le a.2 b.2).map Prod.fst) ((bs.mergeSort fun a b => le a.2 b.2).map Prod.fst)) ∧ ∀ b ∈ bs, Dp K H' b.1 b.2 := by
  intro zs vs hp r
  obtain ⟨ts, t1, t2, t3⟩ : ∃ ts : List ((D × PyData) × V), ts.map (·.1) = zs ∧ ts.map (·.2) = vs ∧ ∀ t ∈ ts, RD K ρ S.length H' t.1.1 t.2 := by
    clear hp
    induction zs generalizing vs with
    | nil => cases r; exact ⟨[], rfl, rfl, fun t h => by cases h⟩
    | cons z zs ih =>
      cases r with
      | cons a b =>
        obtain ⟨ts, t1, t2, t3⟩ := ih b
        refine ⟨(z, _) :: ts, by rw [List.map_cons, t1], by rw [List.map_cons, t2], fun t ht => ?_⟩
        rcases List.mem_cons.mp ht with rfl | ht
        · exact a
        · exact t3 t ht
  have rds : ∀ l : List ((D × PyData) × V), (∀ t ∈ l, RD K ρ S.length H' t.1.1 t.2) → RDs K ρ S.length H' (l.map fun t => t.1.1) (l.map fun t => t.2) := by
    intro l
    induction l with
    | nil => intro _; exact .nil
    | cons t l ih => intro h; exact .cons (h t List.mem_cons_self) (ih fun x hx => h x (List.mem_cons_of_mem _ hx))
  refine ⟨ts.map fun t => (t.2, t.1.2), by rw [List.map_map, ← t2]; rfl, by rw [List.map_map, ← t1, List.map_map]; rfl, fun le => ?_, fun b hb => ?_⟩
  · have e1 : (zs.mergeSort fun a b => le a.2 b.2) = (ts.mergeSort fun a b => le a.1.2 b.1.2).map (·.1) := by
      rw [← t1]
      exact (List.map_mergeSort (r := fun a b => le a.1.2 b.1.2) (s := fun a b => le a.2 b.2) (f := fun t : (D × PyData) × V => t.1) (l := ts) (fun _ _ _ _ => rfl)).symm
    have e2 : ((ts.map fun t => ((t.2, t.1.2) : V × PyData)).mergeSort fun a b => le a.2 b.2) = (ts.mergeSort fun a b => le a.1.2 b.1.2).map fun t => (t.2, t.1.2) := (List.map_mergeSort (r := fun a b => le a.1.2 b.1.2) (s := fun a b => le a.2 b.2) (f := fun t : (D × PyData) × V => (t.2, t.1.2)) (l := ts) (fun _ _ _ _ => rfl)).symm
    rw [e1, e2, List.map_map, List.map_map]
    exact rds _ fun t ht => t3 t ((List.mergeSort_perm ts _).mem_iff.mp ht)
  · obtain ⟨t, ht, rfl⟩ := List.mem_map.mp hb
    exact (hp t.1 (by rw [← t1]; exact List.mem_map.mpr ⟨t, ht, rfl⟩)).dp w (t3 t ht)
theorem rds_get2 : ∀ {xs : List D} {vs : List V} {i : Nat} {v : V}, RDs K ρ n H xs vs → vs[i]? = some v → ∃ x, xs[i]? = some x ∧ RD K ρ n H x v
  | _, _, _, _, .nil, e => by simp at e
  | _, _, 0, _, .cons r _, e => by simp at e; subst e; exact ⟨_, rfl, r⟩
  | _, _, i + 1, x, .cons _ t, e => by
    obtain ⟨u, h1, h2⟩ := rds_get2 (i := i) (v := x) t (by simpa using e)
    exact ⟨u, by simpa using h1, h2⟩
theorem pairs_rd : ∀ {xs : List D} {vs : List V} {ps : List (Key × D)}, RDs K ρ n H xs vs → pairsOf xs = some ps →
    ∃ qs : List (Addr × Key × V), vs = qs.map (fun p => .ref p.1) ∧ (∀ p ∈ qs, SqT K H p.1 [kV p.2.1, p.2.2]) ∧ ps.map Prod.fst = qs.map (fun p => p.2.1) ∧ RDs K ρ n H (ps.map Prod.snd) (qs.map fun p => p.2.2)
  | [], _, ps, .nil, h => by
    have e : ps = [] := (Option.some.inj h).symm
    subst e
    exact ⟨[], rfl, (fun _ z => nomatch z), rfl, .nil⟩
  | x :: r, _, ps, .cons rx t, h => by
    unfold pairsOf at h
    split at h
    · rename_i e0; cases e0
    · rename_i k v r' e0
      cases e0
      split at h
      · rename_i a ps' h1 h2
        have e : (a, v) :: ps' = ps := Option.some.inj h
        subst e
        obtain ⟨qs, e1, e2, e3, e4⟩ := pairs_rd t h2
        cases rx with
        | tup q s =>
          cases s with
          | cons rk s =>
            cases s with
            | cons rv s =>
              cases s
              rename_i p kv vv
              rw [keyOf_kV h1 rk] at q
              refine ⟨(p, a, vv) :: qs, by rw [List.map_cons, ← e1], fun x hx => ?_, by rw [List.map_cons, List.map_cons, e3], .cons rv e4⟩
              rcases List.mem_cons.mp hx with rfl | hx
              · exact q.t
              · exact e2 x hx
      · cases h
    · cases h
theorem merge_rd : ∀ {ps : List (Key × D)} {vs : List (Key × V)}, ps.map Prod.fst = vs.map Prod.fst → RDs K ρ n H (ps.map Prod.snd) (vs.map Prod.snd) → ∀ {acc : List (Key × D)} {acc' : List (Key × V)}, acc.map Prod.fst = acc'.map Prod.fst → RDs K ρ n H (acc.map Prod.snd) (acc'.map Prod.snd) →
    (ps.foldl (fun a p => dPut a p.1 p.2) acc).map Prod.fst = (mergeK acc' vs).map Prod.fst ∧ RDs K ρ n H ((ps.foldl (fun a p => dPut a p.1 p.2) acc).map Prod.snd) ((mergeK acc' vs).map Prod.snd)
  | [], [], _, _, _, _, a, b => ⟨a, b⟩
  | [], _ :: _, e, _, _, _, _, _ => by cases e
  | _ :: _, [], e, _, _, _, _, _ => by cases e
  | (k1, d1) :: r, (k2, v2) :: q, e, rd, acc, acc', a, b => by
    rw [List.map_cons, List.map_cons] at e rd
    injection e with e1 e2
    have e1 : k1 = k2 := e1
    subst e1
    cases rd with
    | cons r1 r2 =>
      obtain ⟨a1, a2⟩ := dPut_rd k1 r1 a b
      exact merge_rd e2 r2 a1 a2
theorem blt_of {b : Bl} {xs : List D} {vs : List V} (w : Wd T K ρ S H) (r : RDs K ρ S.length H xs vs) (h : wpBlt b xs S (Pst T K ρ S.length H Q)) : blR K b vs H Q := by
  unfold wpBlt at h
  split at h
  · cases r with | cons r t => cases t; cases r with | tup q s => exact .inl ⟨_, _, rfl, .inr q.t, by rw [← s.length]; exact h.here w (.int _)⟩
  · cases r with | cons r t => cases t; cases r with | klst q s => exact .inl ⟨_, _, rfl, .inl q.l, by rw [← s.length]; exact h.here w (.int _)⟩
  · split at h
    · rename_i ys e
      cases r with | cons r t => cases t; cases r; obtain ⟨us, q, s⟩ := w.lstAt e; exact .inl ⟨_, _, rfl, .inl (.inl (.inl q)), by rw [← s.length]; exact h.here w (.int _)⟩
    · rename_i kvs e
      cases r with
      | cons r t =>
        cases t; cases r
        obtain ⟨us, q, ke, s⟩ := w.ob _ _ e
        have hl : kvs.length = us.length := by have := congrArg List.length ke; simpa using this
        exact .inr (.inr ⟨_, _, rfl, q, by rw [← hl]; exact h.here w (.int _)⟩)
    · exact h.elim
  · split at h
    · rename_i kvs e
      obtain ⟨fz, e⟩ := dkOf_some e
      cases r with
      | cons r t =>
        cases t; cases r
        obtain ⟨us, q, ke, s⟩ := w.dkAt e
        exact .inl ⟨_, us, rfl, q, fun p hp => h.dk w ke s hp⟩
    · exact h.elim
  · split at h
    · rename_i ps e
      cases r with
      | cons r t =>
        cases t
        cases r with
        | tup q s =>
          obtain ⟨qs, e1, e2, e3, e4⟩ := pairs_rd s e
          refine .inr ⟨_, qs, rfl, by rw [← e1]; exact q, e2, fun l hl => ?_⟩
          obtain ⟨a1, a2⟩ := merge_rd (ps := ps) (vs := qs.map Prod.snd) (by rw [e3, List.map_map]; rfl) (by rw [List.map_map]; exact e4) (acc := []) (acc' := []) rfl .nil
          exact h.dk w a1 a2 hl
    · exact h.elim
  · split at h
    · rename_i ns e
      obtain ⟨hp, h⟩ := h
      cases r with
      | cons r t =>
        cases t; cases r
        obtain ⟨zs, e1, e2⟩ := Option.bind_eq_some_iff.mp e
        obtain ⟨us, q, s⟩ := w.seqAt e1
        rw [intsOf_rd s e2] at q
        exact .inr ⟨_, _, rfl, q, hp, fun m m1 m2 => (h m m1 m2).here w (.int _)⟩
    · exact h.elim
  · split at h
    · rename_i ns e
      obtain ⟨hp, h⟩ := h
      cases r with
      | cons r t =>
        cases t; cases r
        obtain ⟨zs, e1, e2⟩ := Option.bind_eq_some_iff.mp e
        obtain ⟨us, q, s⟩ := w.seqAt e1
        rw [intsOf_rd s e2] at q
        exact .inr ⟨_, _, rfl, q, hp, fun m m1 m2 => (h m m1 m2).here w (.int _)⟩
    · exact h.elim
  · cases r with | cons r t => cases t; cases r; exact .inr (.inl ⟨_, rfl, h.1, h.2.here w (.int _)⟩)
  · cases r with | cons r t => cases t; cases r; exact ⟨_, rfl, h.here w (.int _)⟩
  · cases r with | cons r t => cases t with | cons r2 t2 => cases t2; cases r; cases r2; exact .inl ⟨_, _, rfl, h.here w (.int _)⟩
  · cases r with | cons r t => cases t with | cons r2 t2 => cases t2; cases r; cases r2; exact .inl ⟨_, _, rfl, h.here w (.int _)⟩
  · split at h
    · rename_i ys e
      cases r with | cons r t => cases t; cases r; obtain ⟨zs, e1, e2⟩ := Option.bind_eq_some_iff.mp e; obtain ⟨us, q, s⟩ := w.seqAt e1; rw [intsOf_rd s e2] at q; exact .inl ⟨_, _, rfl, q, h.here w (.int _)⟩
    · exact h.elim
  · split at h
    · rename_i ys e
      cases r with | cons r t => cases t; cases r; obtain ⟨zs, e1, e2⟩ := Option.bind_eq_some_iff.mp e; obtain ⟨us, q, s⟩ := w.seqAt e1; rw [blsOf_rd s e2] at q; exact ⟨_, _, rfl, q, h.here w (.bl _)⟩
    · exact h.elim
  · split at h
    · rename_i ys e
      cases r with | cons r t => cases t; cases r; obtain ⟨zs, e1, e2⟩ := Option.bind_eq_some_iff.mp e; obtain ⟨us, q, s⟩ := w.seqAt e1; rw [blsOf_rd s e2] at q; exact ⟨_, _, rfl, q, h.here w (.bl _)⟩
    · exact h.elim
  · cases r with | cons r t => cases t; cases r; exact .inl ⟨_, rfl, h.here w (.int _)⟩
  · cases r with | cons r t => cases t; cases r; exact .inr ⟨_, rfl, h.here w (.int _)⟩
  · cases r with | cons r t => cases t; cases r; exact .inl ⟨_, rfl, h.here w (.bl _)⟩
  · cases r with | cons r t => cases t; cases r; exact .inr ⟨_, rfl, h.here w (.bl _)⟩
  · cases r with | cons r t => cases t; cases r with | tup q s => exact ⟨_, _, rfl, .inr q.t, fun l hl => h.lst w s hl⟩
  · cases r with | cons r t => cases t; cases r with | klst q s => exact ⟨_, _, rfl, .inl q.l, fun l hl => h.lst w s hl⟩
  · split at h
    · rename_i ys e
      cases r with | cons r t => cases t; cases r; obtain ⟨us, q, s⟩ := w.seqAt e; exact ⟨_, _, rfl, .inl q, fun l hl => h.lst w s hl⟩
    · exact h.elim
  · cases r with | cons r t => cases t; cases r with | tup q s => exact ⟨_, _, rfl, .inr ⟨q.t, h.here w (.tup q s)⟩⟩
  · split at h
    · rename_i ys e
      cases r with | cons r t => cases t; cases r; obtain ⟨us, q, s⟩ := w.seqAt e; exact ⟨_, _, rfl, .inl ⟨q, h.tup w s⟩⟩
    · exact h.elim
  · cases r with | cons r t => cases t; cases r; exact ⟨_, rfl, h.1, h.2.here w (.str _)⟩
  · split at h
    · rename_i ns e
      cases r with | cons r t => cases t; cases r with | tup q s => rw [intsOf_rd s e] at q; exact .inr ⟨_, _, rfl, q.t, h.here w (.int _)⟩
    · exact h.elim
  · cases r with
    | cons r t =>
      cases t
      cases r with
      | ref hl =>
        rcases h with ⟨zs, e1, h1, h2, h3, h4, h⟩ | ⟨xs, e1, h1, h⟩
        · obtain ⟨vs, q, s⟩ := w.seqAt e1
          obtain ⟨bs, b1, b2, b3, b4⟩ := pair_up w h1 s
          refine .inl ⟨_, bs, rfl, by rw [b1]; exact q, b4, by rw [b2]; exact h2, by rw [b2]; exact h3, fun b hb => ?_, fun p hp => ?_⟩
          · obtain ⟨z, hz, e⟩ := List.mem_map.mp (by rw [← b2]; exact List.mem_map.mpr ⟨b, hb, rfl⟩ : b.2 ∈ zs.map Prod.snd)
            rw [← e]
            exact h4 z hz
          · exact h.lst w (b3 (PySem.W.dataLe false id)) hp
        · obtain ⟨vs, q, s⟩ := w.seqAt e1
          refine .inr ⟨_, vs, rfl, q, fun x hx => ?_, fun p hp => h.lst w s hp⟩
          obtain ⟨i, hi⟩ := List.mem_iff_getElem?.mp hx
          obtain ⟨d, hd, rd⟩ := rds_get2 s hi
          rw [h1 d (List.mem_of_getElem? hd)] at rd
          cases rd with
          | tup q' s' => cases s'; exact ⟨_, rfl, q'.t⟩
  · exact h.elim
end
/-! ### isinstance -/
def tyName : Ty → String
  | .int => "int" | .bool => "bool" | .str => "str" | .tuple => "tuple" | .list => "list" | .dict => "dict"
theorem ty_boot (b : Ty) : bootBuiltins (Str.ofString (tyName b)) = some (.type (tyName b)) := by cases b <;> decide +kernel
theorem ty_nn (b : Ty) : Str.ofString (tyName b) ≠ "__name__" := by cases b <;> decide +kernel
theorem ty_nd (b : Ty) : (Str.ofString (tyName b) == ("__debug__" : Str)) = false := by cases b <;> decide +kernel
theorem kit_int (t : Ty) : kitB "int" (tyName t) = some (match t with | .int => true | _ => false) := by cases t <;> decide +kernel
theorem kit_bool (t : Ty) : kitB "bool" (tyName t) = some (match t with | .int => true | .bool => true | _ => false) := by cases t <;> decide +kernel
theorem kit_str (t : Ty) : kitB "str" (tyName t) = some (match t with | .str => true | _ => false) := by cases t <;> decide +kernel
theorem kit_non (t : Ty) : kitB "NoneType" (tyName t) = some false := by cases t <;> decide +kernel
theorem kit_tuple (t : Ty) : kitB "tuple" (tyName t) = some (match t with | .tuple => true | _ => false) := by cases t <;> decide +kernel
theorem kit_list (t : Ty) : kitB "list" (tyName t) = some (match t with | .list => true | _ => false) := by cases t <;> decide +kernel
theorem kit_dict (t : Ty) : kitB "dict" (tyName t) = some (match t with | .dict => true | _ => false) := by cases t <;> decide +kernel
theorem isTy_of {K : PySem.W.Frag} {ρ : Nat → Addr} {S : Sto} {H : Hp} {x : D} {v : V} {t : Ty} {b : Bool} (w : Wd T K ρ S H) (r : RD K ρ S.length H x v) (h : isTy x t S = some b) : ∃ u, TyX K H v u ∧ PySem.W.kitOne K u (.type (tyName t)) = some b := by
  cases r with
  | non => exact ⟨_, .base .non, kit_ty (by rw [kit_non]; exact h)⟩
  | bl k => exact ⟨_, .base (.bl _), kit_ty (by rw [kit_bool]; exact h)⟩
  | int k => exact ⟨_, .base (.int _), kit_ty (by rw [kit_int]; exact h)⟩
  | str k => exact ⟨_, .base (.str _), kit_ty (by rw [kit_str]; exact h)⟩
  | tup q s =>
    have k := kit_ty (K := K) (a := "tuple") (b := tyName t) (r := b) (by rw [kit_tuple]; exact h)
    rcases q with ⟨o, q, _⟩ | ⟨o, its, m, q, e, _⟩
    · exact ⟨_, .fTuple q, k⟩
    · exact ⟨_, .kTuple q e, k⟩
  | klst q s => cases h
  | fn _ => cases h
  | exc _ _ => cases h
  | ref hl =>
    simp only [isTy] at h
    split at h
    · rename_i xs e
      obtain ⟨vs, q, s⟩ := w.lstAt e
      exact ⟨_, .base (.lst q), kit_ty (by rw [kit_list]; exact h)⟩
    · rename_i fz kvs e
      have k := kit_ty (K := K) (a := "dict") (b := tyName t) (r := b) (by rw [kit_dict]; exact h)
      obtain ⟨vs, q, _⟩ := w.dkAt e
      rcases q with q | ⟨o, q⟩
      · exact ⟨_, .base (.dK q), k⟩
      · exact ⟨_, .fDict q, k⟩
    · cases h

theorem isDk_of {T : Tbl} {K : PySem.W.Frag} {ρ : Nat → Addr} {S : Sto} {H : Hp} {x : D} {v : V} (w : Wd T K ρ S H) (r : RD K ρ S.length H x v) (h : isDk x S) : ∃ a, x = .ref a ∧ a < S.length ∧ v = .ref (ρ a) ∧ IsD H (ρ a) := by
  cases r with
  | ref hl =>
    obtain ⟨kvs, e⟩ := h
    obtain ⟨fz, e⟩ := dkOf_some e
    obtain ⟨vs, q, _⟩ := w.dkAt e
    exact ⟨_, rfl, hl, rfl, .inl ⟨vs, q⟩⟩
  | _ => exact h.elim
theorem get_of {T : Tbl} {K : PySem.W.Frag} {ρ : Nat → Addr} {S : Sto} {H : Hp} {a : Nat} {y z : D} {u t : V} {Q : VK} (w : Wd T K ρ S H) (r : RD K ρ S.length H y u) (rz : RD K ρ S.length H z t) (h : wpGet (.ref a) y z S (Pst T K ρ S.length H Q)) : ∃ o, DGet H (ρ a) u o ∧ Q (o.getD t) H := by
  simp only [wpGet] at h
  split at h
  · rename_i kvs k e hk
    obtain ⟨fz, e⟩ := dkOf_some e
    obtain ⟨o, g, m⟩ := dget_of w e hk r
    refine ⟨o, g, ?_⟩
    split at m
    · rename_i d hd
      obtain ⟨v, rfl, rv⟩ := m
      rw [hd] at h
      exact h.here w rv
    · rename_i hd
      rw [m]
      rw [hd] at h
      exact h.here w rz
  · exact h.elim
theorem recv_lst {K : PySem.W.Frag} {ρ : Nat → Addr} {S : Sto} {H : Hp} {m : Mt} {x : D} {v : V} (hm : m ≠ .bits ∧ m ≠ .alnum ∧ m ≠ .split) (w : Wd T K ρ S H) (r : RD K ρ S.length H x v) (h : mtRecv m x S) : ∃ (a : Nat) (xs : List D), (x = .ref a ∧ v = .ref (ρ a)) ∧ S[a]? = some (.lst xs) ∧ ∃ us, H (ρ a) = some (.lst us) := by
  unfold mtRecv at h
  split at h
  · exact absurd rfl hm.1
  · exact h.elim
  · exact absurd rfl hm.2.1
  · exact h.elim
  · exact absurd rfl hm.2.2
  · exact h.elim
  · split at h
    · rename_i xs e
      cases r
      obtain ⟨vs, e3, r3⟩ := w.lstAt e
      exact ⟨_, xs, ⟨rfl, rfl⟩, e, vs, e3⟩
    · exact h.elim
  · exact h.elim

section
variable {X : Cx} {T : Tbl} {c : CallT} {W : WX} {pos : Pos} (hc : CallMono c c) {a b d e o : Expr} {xa xb xd xo : MX} {es : List Expr} {xs : MXs}
include hc
theorem sd_blt {f : Bl} {p : Pos} (cm : X.calm = true) (hu : X.A.units + 65 < cLine) (hg : Gl X (Str.ofString (bltName f))) (hm : X.mg (Str.ofString (bltName f)) = none) (ha : PA X (e :: es) (tA T X.K c W xs)) (he : starEach (e :: es) X.env = (false, eval e X.env) :: starEach es X.env) (hpl : (backTo pos (starEach es X.env)).any (·.1) = false) :
    PE X (.Call (.Name (Str.ofString (bltName f)) p) (e :: es) [] pos) (tE T X.K c W (.blt f xs)) := by
  have hv := blt_boot f
  have hk := blt_ok cm hu f
  have nn := blt_nn f
  have nd := blt_nd f
  have go : PE X (.Call (.Name (Str.ofString (bltName f)) p) (e :: es) [] pos) (tCB (blR X.K f) (tA T X.K c W xs)) := by
    unfold bltVal at hv hk
    by_cases ht : bltTy f = true
    · rw [if_pos ht] at hv hk
      exact pe_callTy hk hg hm hv ha nn nd he hpl
    · rw [if_neg ht] at hv hk
      exact pe_callB hk hg hm hv ha nn nd he hpl
  refine impE go fun ς H Q ⟨ρ, σ, S, E, s, h⟩ => ?_
  unfold wpE at h
  exact tA_of hc s h fun y S2 ρ2 H2 u h2 e2 w2 r2 => blt_of w2 r2 (wpBlt_mono h2 fun d S' q => q.ext e2)
theorem sd_isi {t : Ty} {p p2 : Pos} (hg : Gl X "isinstance") (hm : X.mg "isinstance" = none) (hg2 : Gl X (Str.ofString (tyName t))) (hm2 : X.mg (Str.ofString (tyName t)) = none) (ha : PE X a (tE T X.K c W xa)) (he : starEach [a, .Name (Str.ofString (tyName t)) p2] X.env = (false, eval a X.env) :: starEach [.Name (Str.ofString (tyName t)) p2] X.env) :
    PE X (.Call (.Name "isinstance" p) [a, .Name (Str.ofString (tyName t)) p2] [] pos) (tE T X.K c W (.isi xa t)) := by
  have hT : PE X (.Name (Str.ofString (tyName t)) p2) (tC (.ty (tyName t))) := pe_bltn hg2 hm2 (ty_boot t) rfl (ty_nn t) (ty_nd t)
  refine impE (pe_callB call_isi hg hm boot_isinstance (pa_cons ha (pa_cons hT pa_nil) he) (by decide +kernel) (by decide +kernel) he rfl) fun ς H Q ⟨ρ, σ, S, E, s, h⟩ => ?_
  unfold wpE at h
  refine tE_of hc s h fun x S1 ρ1 H1 v h1 e1 w1 r1 => ?_
  split at h1
  · rename_i k ek
    obtain ⟨u, ty, kk⟩ := isTy_of w1 r1 ek
    exact ⟨v, .ty (tyName t), u, _, k, rfl, .ty _, ty, kk, (Pst.ext e1 h1).here w1 (.bl _)⟩
  · exact h1.elim
/-! ### list(range(..)), tuple(range(..)) -/
theorem sd_lrg1 {p p2 p3 : Pos} (cm : X.calm = true) (hg : Gl X "list") (hm : X.mg "list" = none) (hg2 : Gl X "range") (hm2 : X.mg "range" = none) (ha : PE X a (tE T X.K c W xa)) (na : starEach [a] X.env = (false, eval a X.env) :: starEach [] X.env) :
    PE X (.Call (.Name "list" p) [.Call (.Name "range" p2) [a] [] p3] [] pos) (tE T X.K c W (.listRg (.cons xa .nil))) := impE (pe_listRg cm hg hm (prg_1 hg2 hm2 ha na) rfl) fun ς H Q ⟨ρ, σ, S, E, s, h⟩ => by
  simp only [wpE, wpEs] at h
  refine tE_of hc s h fun x S1 ρ1 H1 v h1 e1 w1 r1 => ?_
  unfold wpRg at h1
  split at h1
  · rename_i j hj
    cases hj
    cases r1
    exact ⟨_, rfl, h1.1, fun q hq => (Pst.ext e1 h1.2).lst w1 (.rg _ _) hq⟩
  · rename_i hj; cases hj
  · exact h1.elim
theorem sd_trg1 {p p2 p3 : Pos} (cm : X.calm = true) (hg : Gl X "tuple") (hm : X.mg "tuple" = none) (hg2 : Gl X "range") (hm2 : X.mg "range" = none) (ha : PE X a (tE T X.K c W xa)) (na : starEach [a] X.env = (false, eval a X.env) :: starEach [] X.env) :
    PE X (.Call (.Name "tuple" p) [.Call (.Name "range" p2) [a] [] p3] [] pos) (tE T X.K c W (.tupRg (.cons xa .nil))) := impE (pe_tupRgN cm hg hm (prg_1 hg2 hm2 ha na) rfl) fun ς H Q ⟨ρ, σ, S, E, s, h⟩ => by
  simp only [wpE, wpEs] at h
  refine tE_of hc s h fun x S1 ρ1 H1 v h1 e1 w1 r1 => ?_
  unfold wpRg at h1
  split at h1
  · rename_i j hj
    cases hj
    cases r1
    exact ⟨_, rfl, h1.1, (Pst.ext e1 h1.2).tup w1 (.rg _ _)⟩
  · rename_i hj; cases hj
  · exact h1.elim
theorem sd_lrg2 {p p2 p3 : Pos} (cm : X.calm = true) (hg : Gl X "list") (hm : X.mg "list" = none) (hg2 : Gl X "range") (hm2 : X.mg "range" = none) (ha : PE X a (tE T X.K c W xa)) (hb : PE X b (tE T X.K c W xb)) (na : starEach [a, b] X.env = (false, eval a X.env) :: starEach [b] X.env) (nb : starEach [b] X.env = (false, eval b X.env) :: starEach [] X.env) :
    PE X (.Call (.Name "list" p) [.Call (.Name "range" p2) [a, b] [] p3] [] pos) (tE T X.K c W (.listRg (.cons xa (.cons xb .nil)))) := impE (pe_listRg cm hg hm (prg_2 hg2 hm2 ha hb na nb (by rw [nb]; rfl)) rfl) fun ς H Q ⟨ρ, σ, S, E, s, h⟩ => by
  simp only [wpE, wpEs] at h
  refine tE_of hc s h fun x S1 ρ1 H1 v h1 e1 w1 r1 => tE_of hc (s.next e1 w1) h1 fun y S2 ρ2 H2 u h2 e2 w2 r2 => ?_
  unfold wpRg at h2
  split at h2
  · rename_i hj; cases hj
  · rename_i i j hj
    cases hj
    cases r1
    cases r2
    exact ⟨_, _, rfl, rfl, h2.1, fun q hq => (Pst.ext (e1.trans e2) h2.2).lst w2 (.rg _ _) hq⟩
  · exact h2.elim
theorem sd_trg2 {p p2 p3 : Pos} (cm : X.calm = true) (hg : Gl X "tuple") (hm : X.mg "tuple" = none) (hg2 : Gl X "range") (hm2 : X.mg "range" = none) (ha : PE X a (tE T X.K c W xa)) (hb : PE X b (tE T X.K c W xb)) (na : starEach [a, b] X.env = (false, eval a X.env) :: starEach [b] X.env) (nb : starEach [b] X.env = (false, eval b X.env) :: starEach [] X.env) :
    PE X (.Call (.Name "tuple" p) [.Call (.Name "range" p2) [a, b] [] p3] [] pos) (tE T X.K c W (.tupRg (.cons xa (.cons xb .nil)))) := impE (pe_tupRgN cm hg hm (prg_2 hg2 hm2 ha hb na nb (by rw [nb]; rfl)) rfl) fun ς H Q ⟨ρ, σ, S, E, s, h⟩ => by
  simp only [wpE, wpEs] at h
  refine tE_of hc s h fun x S1 ρ1 H1 v h1 e1 w1 r1 => tE_of hc (s.next e1 w1) h1 fun y S2 ρ2 H2 u h2 e2 w2 r2 => ?_
  unfold wpRg at h2
  split at h2
  · rename_i hj; cases hj
  · rename_i i j hj
    cases hj
    cases r1
    cases r2
    exact ⟨_, _, rfl, rfl, h2.1, (Pst.ext (e1.trans e2) h2.2).tup w2 (.rg _ _)⟩
  · exact h2.elim
/-! ### methods -/
theorem sd_append {apos : Pos} (hbase : attributeBase o "append" X.env (eval o X.env) = eval o X.env) (hline : (apos.endLine == pos.line) = true) (ho : PE X o (tE T X.K c W xo)) (ha : PE X a (tE T X.K c W xa)) (hs : starEach [a] X.env = (false, eval a X.env) :: starEach [] X.env) :
    PE X (.Call (.Attribute o "append" apos) [a] [] pos) (tE T X.K c W (.meth .append xo (.cons xa .nil))) := impE (pe_bm PySem.F.plainAttrs_list PySem.F.slot_list_append PySem.F.type_list_append mt_append ho (pa_cons ha pa_nil hs) hbase (by rw [hs]; rfl) hline hs rfl) fun ς H Q ⟨ρ, σ, S, E, s, h⟩ => by
  simp only [wpE, wpEs] at h
  refine tE_of hc s h fun x S1 ρ1 H1 v h1 e1 w1 r1 => ?_
  obtain ⟨a, xs, ea, hl, us, hu⟩ := recv_lst ⟨by decide, by decide, by decide⟩ w1 r1 h1.1
  obtain ⟨rfl, rfl⟩ := ea
  refine ⟨.inl ⟨rfl, us, .inl (.inl hu)⟩, tE_of hc (s.next e1 w1) h1.2 fun y S2 ρ2 H2 u h2 e2 w2 r2 => ?_⟩
  rw [← e2.ag _ (w1.lt hl)]
  simp only [wpMeth] at h2
  split at h2
  · rename_i ys ey
    obtain ⟨vs, e3, r3⟩ := w2.lstAt ey
    exact ⟨_, _, _, rfl, rfl, e3, by rw [← r3.length]; exact h2.1, h2.2 ρ2 _ _ ((e1.trans e2).trans (Ext.setL (w2.lt ey) e3)) (w2.setL ey e3 (r3.append (.cons r2 .nil))) .non⟩
  · exact h2.elim
theorem sd_extend {apos : Pos} (hbase : attributeBase o "extend" X.env (eval o X.env) = eval o X.env) (hline : (apos.endLine == pos.line) = true) (ho : PE X o (tE T X.K c W xo)) (ha : PE X a (tE T X.K c W xa)) (hs : starEach [a] X.env = (false, eval a X.env) :: starEach [] X.env) :
    PE X (.Call (.Attribute o "extend" apos) [a] [] pos) (tE T X.K c W (.meth .extend xo (.cons xa .nil))) := impE (pe_bm PySem.F.plainAttrs_list PySem.F.slot_list_extend PySem.F.type_list_extend mt_extendG ho (pa_cons ha pa_nil hs) hbase (by rw [hs]; rfl) hline hs rfl) fun ς H Q ⟨ρ, σ, S, E, s, h⟩ => by
  simp only [wpE, wpEs] at h
  refine tE_of hc s h fun x S1 ρ1 H1 v h1 e1 w1 r1 => ?_
  obtain ⟨a, xs, ea, hl, us, hu⟩ := recv_lst ⟨by decide, by decide, by decide⟩ w1 r1 h1.1
  obtain ⟨rfl, rfl⟩ := ea
  refine ⟨.inl ⟨rfl, us, .inl (.inl hu)⟩, tE_of hc (s.next e1 w1) h1.2 fun y S2 ρ2 H2 u h2 e2 w2 r2 => ?_⟩
  rw [← e2.ag _ (w1.lt hl)]
  cases r2 with
  | ref hb =>
    simp only [wpMeth] at h2
    split at h2
    · rename_i ys ey
      split at h2
      · rename_i zs ez
        obtain ⟨vs, e3, r3⟩ := w2.lstAt ey
        obtain ⟨ws, e4, r4⟩ := w2.lstAt ez
        exact ⟨_, _, _, _, rfl, rfl, e3, .inl e4, by rw [← r3.length, ← r4.length]; exact h2.1, h2.2 ρ2 _ _ ((e1.trans e2).trans (Ext.setL (w2.lt ey) e3)) (w2.setL ey e3 (r3.append r4)) .non⟩
      · exact h2.elim
    · exact h2.elim
  | tup et r4 =>
    simp only [wpMeth] at h2
    split at h2
    · rename_i zs ey
      obtain ⟨vs, e3, r3⟩ := w2.lstAt ey
      exact ⟨_, _, _, _, rfl, rfl, e3, .inr et.t, by rw [← r3.length, ← r4.length]; exact h2.1, h2.2 ρ2 _ _ ((e1.trans e2).trans (Ext.setL (w2.lt ey) e3)) (w2.setL ey e3 (r3.append r4)) .non⟩
    · exact h2.elim
  | _ => exact h2.elim
theorem sd_pop {apos : Pos} (hbase : attributeBase o "pop" X.env (eval o X.env) = eval o X.env) (hline : (apos.endLine == pos.line) = true) (ho : PE X o (tE T X.K c W xo)) :
    PE X (.Call (.Attribute o "pop" apos) [] [] pos) (tE T X.K c W (.meth .pop xo .nil)) := impE (pe_bm0 PySem.F.plainAttrs_list PySem.F.slot_list_pop PySem.F.type_list_pop mt_pop ho hbase hline) fun ς H Q ⟨ρ, σ, S, E, s, h⟩ => by
  simp only [wpE, wpEs] at h
  refine tE_of hc s h fun x S1 ρ1 H1 v h1 e1 w1 r1 => ?_
  obtain ⟨a, xs, ea, hl, us, hu⟩ := recv_lst ⟨by decide, by decide, by decide⟩ w1 r1 h1.1
  obtain ⟨rfl, rfl⟩ := ea
  refine ⟨.inl ⟨rfl, us, .inl (.inl hu)⟩, ?_⟩
  have h2 := h1.2
  simp only [wpMeth] at h2
  split at h2
  · rename_i ys ey
    split at h2
    · rename_i y e4
      obtain ⟨vs, e3, r3⟩ := w1.lstAt ey
      obtain ⟨z, e5, rz⟩ := r3.get e4
      rw [r3.length] at e5
      have ex : Ext X.K ρ1 S1.length H1 ρ1 (S1.set a (.lst ys.dropLast)).length (upd H1 (ρ1 a) (.lst vs.dropLast)) := Ext.setL (w1.lt ey) e3
      exact ⟨_, _, z, rfl, rfl, e3, e5, h2 ρ1 _ _ (e1.trans ex) (w1.setL ey e3 r3.dropLast) (rz.ext ex)⟩
    · exact h2.elim
  · exact h2.elim
theorem sd_popAt {apos : Pos} (hbase : attributeBase o "pop" X.env (eval o X.env) = eval o X.env) (hline : (apos.endLine == pos.line) = true) (ho : PE X o (tE T X.K c W xo)) (ha : PE X a (tE T X.K c W xa)) (hs : starEach [a] X.env = (false, eval a X.env) :: starEach [] X.env) :
    PE X (.Call (.Attribute o "pop" apos) [a] [] pos) (tE T X.K c W (.meth .popAt xo (.cons xa .nil))) := impE (pe_bm PySem.F.plainAttrs_list PySem.F.slot_list_pop PySem.F.type_list_pop mt_popAt ho (pa_cons ha pa_nil hs) hbase (by rw [hs]; rfl) hline hs rfl) fun ς H Q ⟨ρ, σ, S, E, s, h⟩ => by
  simp only [wpE, wpEs] at h
  refine tE_of hc s h fun x S1 ρ1 H1 v h1 e1 w1 r1 => ?_
  obtain ⟨a, xs, ea, hl, us, hu⟩ := recv_lst ⟨by decide, by decide, by decide⟩ w1 r1 h1.1
  obtain ⟨rfl, rfl⟩ := ea
  refine ⟨.inl ⟨rfl, us, .inl (.inl hu)⟩, tE_of hc (s.next e1 w1) h1.2 fun y S2 ρ2 H2 u h2 e2 w2 r2 => ?_⟩
  rw [← e2.ag _ (w1.lt hl)]
  cases r2 with
  | int i =>
    simp only [wpMeth] at h2
    split at h2
    · rename_i ys ey
      split at h2
      · rename_i k ek
        split at h2
        · rename_i y e4
          obtain ⟨vs, e3, r3⟩ := w2.lstAt ey
          obtain ⟨z, e5, rz⟩ := r3.get e4
          have e6 := (ixN_seq ek).1
          rw [r3.length] at e6
          have ex : Ext X.K ρ2 S2.length H2 ρ2 (S2.set a (.lst (ys.eraseIdx k))).length (upd H2 (ρ2 a) (.lst (vs.eraseIdx k))) := Ext.setL (w2.lt ey) e3
          exact ⟨_, _, i, k, z, rfl, rfl, e3, h2.1.1, h2.1.2, e6, e5, h2.2 ρ2 _ _ ((e1.trans e2).trans ex) (w2.setL ey e3 (r3.eraseIdx k)) (rz.ext ex)⟩
        · exact h2.elim
      · exact h2.elim
    · exact h2.elim
  | _ => exact h2.elim
theorem sd_insert {apos : Pos} (hbase : attributeBase o "insert" X.env (eval o X.env) = eval o X.env) (hline : (apos.endLine == pos.line) = true) (ho : PE X o (tE T X.K c W xo)) (ha : PE X a (tE T X.K c W xa)) (hb : PE X b (tE T X.K c W xb)) (hs : starEach [a, b] X.env = (false, eval a X.env) :: starEach [b] X.env) (hs2 : starEach [b] X.env = (false, eval b X.env) :: starEach [] X.env) :
    PE X (.Call (.Attribute o "insert" apos) [a, b] [] pos) (tE T X.K c W (.meth .insert xo (.cons xa (.cons xb .nil)))) := impE (pe_bm PySem.F.plainAttrs_list PySem.F.slot_list_insert PySem.F.type_list_insert mt_insert ho (pa_cons ha (pa_cons hb pa_nil hs2) hs) hbase (by rw [hs, hs2]; rfl) hline hs (by rw [hs2]; rfl)) fun ς H Q ⟨ρ, σ, S, E, s, h⟩ => by
  simp only [wpE, wpEs] at h
  refine tE_of hc s h fun x S1 ρ1 H1 v h1 e1 w1 r1 => ?_
  obtain ⟨a, xs, ea, hl, us, hu⟩ := recv_lst ⟨by decide, by decide, by decide⟩ w1 r1 h1.1
  obtain ⟨rfl, rfl⟩ := ea
  refine ⟨.inl ⟨rfl, us, .inl (.inl hu)⟩, tE_of hc (s.next e1 w1) h1.2 fun y S2 ρ2 H2 u h2 e2 w2 r2 => tE_of hc (s.next (e1.trans e2) w2) h2 fun z S3 ρ3 H3 t h3 e3 w3 r3 => ?_⟩
  rw [← (e2.trans e3).ag _ (w1.lt hl)]
  cases r2 with
  | int i =>
    simp only [wpMeth] at h3
    split at h3
    · rename_i ys ey
      obtain ⟨vs, e4, r4⟩ := w3.lstAt ey
      have rr : RDs X.K ρ3 S3.length H3 (ys.take i.toNat ++ [z] ++ ys.drop i.toNat) (vs.take i.toNat ++ [t] ++ vs.drop i.toNat) := ((r4.take i.toNat).append (.cons r3 .nil)).append (r4.drop i.toNat)
      have ex : Ext X.K ρ3 S3.length H3 ρ3 (S3.set a (.lst (ys.take i.toNat ++ [z] ++ ys.drop i.toNat))).length (upd H3 (ρ3 a) (.lst (vs.take i.toNat ++ [t] ++ vs.drop i.toNat))) := Ext.setL (w3.lt ey) e4
      exact ⟨_, _, i, t, rfl, rfl, e4, by rw [← r4.length]; exact h3.1.1, h3.1.2.1, h3.1.2.2, h3.2 ρ3 _ _ (((e1.trans e2).trans e3).trans ex) (w3.setL ey e4 rr) .non⟩
    · exact h3.elim
  | _ => exact h3.elim
theorem sd_bits {apos : Pos} (hbase : attributeBase o "bit_length" X.env (eval o X.env) = eval o X.env) (hline : (apos.endLine == pos.line) = true) (ho : PE X o (tE T X.K c W xo)) :
    PE X (.Call (.Attribute o "bit_length" apos) [] [] pos) (tE T X.K c W (.meth .bits xo .nil)) := impE (pe_bits ho hbase hline) fun ς H Q ⟨ρ, σ, S, E, s, h⟩ => by
  simp only [wpE, wpEs] at h
  refine tE_of hc s h fun x S1 ρ1 H1 v h1 e1 w1 r1 => ?_
  cases r1 with
  | int i => exact ⟨i, rfl, (Pst.ext e1 (show Pst T X.K ρ S.length H Q _ S1 from h1.2)).here w1 (.int _)⟩
  | _ => exact h1.1.elim
theorem sd_alnum {apos : Pos} (hbase : attributeBase o "isalnum" X.env (eval o X.env) = eval o X.env) (hline : (apos.endLine == pos.line) = true) (ho : PE X o (tE T X.K c W xo)) :
    PE X (.Call (.Attribute o "isalnum" apos) [] [] pos) (tE T X.K c W (.meth .alnum xo .nil)) := impE (pe_m0 PySem.F.slot_str_isalnum PySem.F.type_str_isalnum mt_isalnum ho hbase hline) fun ς H Q ⟨ρ, σ, S, E, s, h⟩ => by
  simp only [wpE, wpEs] at h
  refine tE_of hc s h fun x S1 ρ1 H1 v h1 e1 w1 r1 => ?_
  cases r1 with
  | str z => exact ⟨⟨z, rfl⟩, z, rfl, rfl, trivial, (Pst.ext e1 (show Pst T X.K ρ S.length H Q _ S1 from h1.2)).here w1 (.bl _)⟩
  | _ => exact h1.1.elim
omit hc in
theorem strs_rd {K : PySem.W.Frag} {ρ : Nat → Addr} {n : Nat} {H : Hp} : ∀ ys : List Str, RDs K ρ n H (ys.map D.str) (ys.map V.str)
  | [] => .nil
  | y :: r => .cons (.str y) (strs_rd r)
theorem sd_split {apos : Pos} (hbase : attributeBase o "split" X.env (eval o X.env) = eval o X.env) (hline : (apos.endLine == pos.line) = true) (ho : PE X o (tE T X.K c W xo)) (ha : PE X a (tE T X.K c W xa)) (hs : starEach [a] X.env = [(false, eval a X.env)]) :
    PE X (.Call (.Attribute o "split" apos) [a] [] pos) (tE T X.K c W (.meth .split xo (.cons xa .nil))) := impE (pe_split ho ha hs hbase hline) fun ς H Q ⟨ρ, σ, S, E, s, h⟩ => by
  simp only [wpE, wpEs] at h
  refine tE_of hc s h fun x S1 ρ1 H1 v h1 e1 w1 r1 => ?_
  cases r1 with
  | str z =>
    refine ⟨⟨z, rfl⟩, tE_of hc (s.next e1 w1) h1.2 fun y S2 ρ2 H2 u h2 e2 w2 r2 => ?_⟩
    cases r2 with
    | str y =>
      have h3 : ((y.length == 0) = false ∧ z.length + 2 ≤ sizeLine) ∧ Pst T X.K ρ S.length H Q (.ref S2.length) (S2 ++ [.lst ((Txt.split z y).map D.str)]) := h2
      exact ⟨z, y, rfl, rfl, h3.1.1, h3.1.2, fun p hp => (h3.2.ext (e1.trans e2)).lst w2 (strs_rd _) hp⟩
    | _ => exact h2.elim
  | _ => exact h1.1.elim
/-! ### dicts -/
theorem sd_dnew : PE X (.Dict [] [] pos) (tE T X.K c W .dnew) := impE pe_dnewK fun ς H Q ⟨ρ, σ, S, E, s, h⟩ p hp => by
  simp only [wpE] at h
  exact Pst.dk s.wd h rfl .nil hp
theorem sd_ddis1 (ha : PE X a (tE T X.K c W xa)) (hb : PE X b (tE T X.K c W xb)) : PE X (.Dict [some a] [b] pos) (tE T X.K c W (.ddis1 xa xb)) := impE (pe_disp (pps_cons ha hb pps_nil) rfl rfl (by simp) (by simp)) fun ς H Q ⟨ρ, σ, S, E, s, h⟩ p hp => by
  simp only [wpE] at h
  have s' := s.next (S1 := S) (Ext.new (o := .dK []) hp) (s.wd.new hp)
  refine tE_of hc s' h fun x S1 ρ1 H1 v h1 e1 w1 r1 => tE_of hc (s'.next e1 w1) h1 fun y S2 ρ2 H2 u h2 e2 w2 r2 => ?_
  split at h2
  · rename_i k hk
    have fr0 : ∀ a, a < S.length → ρ a ≠ p := s.wd.free hp
    have e12 := e1.trans e2
    have hp2 : H2 p = some (.dK []) := e12.fr p _ upd_same fr0
    have fr2 : ∀ a, a < S2.length → ρ2 a ≠ p := fun a la => by
      by_cases hh : a < S.length
      · rw [e12.ag a hh]; exact fr0 a hh
      · intro z
        have := e12.nw a (Nat.le_of_not_lt hh) la
        rw [z, upd_same] at this
        cases this
    refine ⟨hp2, [(k, u)], by rw [keyOf_kV hk r1]; rfl, by simp, ?_⟩
    show Q (.ref p) (upd H2 p (.dK [(k, u)]))
    have w3 : Wd T X.K ρ2 S2 (upd H2 p (.dK [(k, u)])) := w2.untr hp2 trivial fr2
    have w4 := w3.adoptO (o := .dk false [(k, y)]) (p := p) ⟨[(k, u)], upd_same, rfl, (RDs.cons r2 .nil).untr hp2 trivial⟩ fr2
    have e00 : Ext X.K ρ S.length H ρ2 S2.length H2 := (Ext.new (o := .dK []) hp).trans e12
    have e3 := (e00.untr (o := .dK [(k, u)]) hp hp2 trivial).adopt (p := p) hp
    have e4 : Ext X.K ρ S.length H (nxt ρ2 S2.length p) (S2 ++ [O.dk false [(k, y)]]).length (upd H2 p (.dK [(k, u)])) := by
      rw [List.length_append, List.length_singleton]
      exact e3
    have r0 : RD X.K (nxt ρ2 S2.length p) (S2 ++ [O.dk false [(k, y)]]).length (upd H2 p (.dK [(k, u)])) (.ref S2.length) (.ref (nxt ρ2 S2.length p S2.length)) := .ref (by simp)
    rw [nxt_self] at r0
    exact h2 _ _ _ e4 w4 r0
  · exact h2.elim
theorem sd_dget {apos : Pos} (hu : X.A.units + 65 < cLine) (hbase : attributeBase o "get" X.env (eval o X.env) = eval o X.env) (hline : (apos.endLine == pos.line) = true) (ho : PE X o (tE T X.K c W xo)) (ha : PE X a (tE T X.K c W xa)) (hs : starEach [a] X.env = [(false, eval a X.env)]) :
    PE X (.Call (.Attribute o "get" apos) [a] [] pos) (tE T X.K c W (.dget xo xa)) := impE (pe_dget1 (by omega) ho ha ⟨hbase, by rw [hs]; rfl, hline, by rw [hs]; rfl⟩) fun ς H Q ⟨ρ, σ, S, E, s, h⟩ => by
  simp only [wpE] at h
  refine tE_of hc s h fun x S1 ρ1 H1 v h1 e1 w1 r1 => ?_
  obtain ⟨a, rfl, hl, rfl, d⟩ := isDk_of w1 r1 h1.1
  refine ⟨_, rfl, d, tE_of hc (s.next e1 w1) h1.2 fun y S2 ρ2 H2 u h2 e2 w2 r2 => ?_⟩
  rw [← e2.ag _ hl]
  exact get_of w2 r2 .non (wpGet_mono h2 fun d S' q => q.ext (e1.trans e2))
theorem sd_dget2 {apos : Pos} (hu : X.A.units + 65 < cLine) (hbase : attributeBase o "get" X.env (eval o X.env) = eval o X.env) (hline : (apos.endLine == pos.line) = true) (ho : PE X o (tE T X.K c W xo)) (ha : PE X a (tE T X.K c W xa)) (hb : PE X b (tE T X.K c W xb)) (hs : starEach [a, b] X.env = [(false, eval a X.env), (false, eval b X.env)]) :
    PE X (.Call (.Attribute o "get" apos) [a, b] [] pos) (tE T X.K c W (.dget2 xo xa xb)) := impE (pe_dget2 (by omega) ho ha hb ⟨hbase, by rw [hs]; rfl, hline, by rw [hs]; rfl⟩) fun ς H Q ⟨ρ, σ, S, E, s, h⟩ => by
  simp only [wpE] at h
  refine tE_of hc s h fun x S1 ρ1 H1 v h1 e1 w1 r1 => ?_
  obtain ⟨a, rfl, hl, rfl, d⟩ := isDk_of w1 r1 h1.1
  refine ⟨_, rfl, d, tE_of hc (s.next e1 w1) h1.2 fun y S2 ρ2 H2 u h2 e2 w2 r2 => tE_of hc (s.next (e1.trans e2) w2) h2 fun z S3 ρ3 H3 t h3 e3 w3 r3 => ?_⟩
  rw [← (e2.trans e3).ag _ hl]
  exact get_of w3 (r2.ext e3) r3 (wpGet_mono h3 fun d S' q => q.ext ((e1.trans e2).trans e3))
/-! ### list(o.keys()) -/
theorem sd_keysOf {p apos kpos : Pos} (cm : X.calm = true) (hg : Gl X "list") (hm : X.mg "list" = none) (hbase : attributeBase o "keys" X.env (eval o X.env) = eval o X.env) (hline : (apos.endLine == kpos.line) = true) (ho : PE X o (tE T X.K c W xo)) :
    PE X (.Call (.Name "list" p) [.Call (.Attribute o "keys" apos) [] [] kpos] [] pos) (tE T X.K c W (.keysOf xo)) := by
  refine ⟨fun pins s ς H Q I ⟨ρ, σ, S, E, st, h⟩ => ?_⟩
  simp only [wpE] at h
  have na : starEach [.Call (.Attribute o "keys" apos) [] [] kpos] X.env = (false, eval (.Call (.Attribute o "keys" apos) [] [] kpos) X.env) :: starEach [] X.env := rfl
  refine Call_ (ld_blt I hg hm boot_list (PyProof.Rows.callWith_type1 (args_cons ?_ na) rfl))
  refine wpAny_Call_method (T := "dict") (id := "dict.keys") hbase rfl hline PySem.F.plainAttrs_dict PySem.F.slot_dict_keys PySem.F.type_dict_keys (thn (ho.run pins s ς H (fun v H1 => ∃ d kvs, v = .ref d ∧ H1 d = some (.dK kvs) ∧ ∀ q, H1 q = none → Q (.ref q) (upd H1 q (.lst (kvs.map fun kv => kV kv.1)))) I (tE_of hc st h fun x S1 ρ1 H1 v h1 e1 w1 r1 => ?_)) fun u s1 z => ?_)
  · split at h1
    · split at h1
      · rename_i kvs ey
        cases r1 with
        | ref hl =>
          obtain ⟨vs, q, ke, rd⟩ := w1.ob _ _ ey
          refine ⟨_, vs, rfl, q, fun qa hqa => ?_⟩
          refine Pst.lst w1 (Pst.ext e1 h1) ?_ hqa
          have e : (kvs.map fun kv => keyD kv.1) = (kvs.map Prod.fst).map keyD := by rw [List.map_map]; rfl
          have e' : (vs.map fun kv => kV kv.1) = (vs.map Prod.fst).map kV := by rw [List.map_map]; rfl
          rw [e, e', ke]
          generalize vs.map Prod.fst = ks
          induction ks with
          | nil => exact .nil
          | cons k r ih =>
            refine .cons ?_ ih
            cases k with
            | inl i => exact .int i
            | inr x => exact .str x
      · exact h1.elim
    · exact h1.elim
  · obtain ⟨v, H1, I1, r1, d, kvs, rfl, hk, q⟩ := z
    obtain rfl : u = Value.ref d := r1
    obtain ⟨z, lo, vs, rk, hd⟩ := (show ObjOk X.prog X.w H1 s1.heap d (.dK kvs) from I1.hok d _ hk)
    obtain ⟨ep, hat⟩ := hd.dictAt
    have hl : kvs.length = vs.length := Paired.length rk
    refine ⟨hd.typeIs, hd.mapOf.noDict, ?_⟩
    have I2 : Inv X pins ς H1 { s1 with heap := s1.heap.push { cls := .type "dict_keys", data := .fields #[.ref d] } } := I1.kept (t' := s1.toks) fun b ob q => Heap.get?_push_of_some _ q
    have fin : wpAny (model X.prog X.w) X.A (call (.type "list") [.ref s1.heap.objs.size]) (EP X pins ς Q) X.xe { s1 with heap := s1.heap.push { cls := .type "dict_keys", data := .fields #[.ref d] } } := by
      refine PySem.W.kdl_call (PySem.W.kdl_keys (knd := mixKind X.prog X.w) (kvs := vs) (ep := ep) (d := d)) (I2.ok.hd cm) ⟨⟨_, Heap.get?_push_size _ rfl, rfl, rfl⟩, hat.push _⟩ (by rw [← hl]; exact z) fun h' tk acc' c' hkeep hS hacc => ?_
      refine ⟨.ref _, upd H1 _ (.lst (kvs.map fun kv => kV kv.1)), I2.laid hkeep (Nat.le_refl _) (show ObjOk X.prog X.w _ _ _ (.lst (kvs.map fun kv => kV kv.1)) from ⟨?_, acc'.toList, c', ?_, ?_⟩), rfl, q _ (I2.hok.fresh (Nat.le_refl _))⟩
      · rw [List.length_map]; exact z
      · have el : acc'.toList.length = acc'.size := by simp
        refine vals_of_at (by rw [List.length_map, el, hacc.1, hl]) fun j x w h1 h2 => ?_
        obtain ⟨k, y, hky, hi⟩ := hacc.2 j w (by rw [← Array.getElem?_toList]; exact h2)
        have k1 : (kvs.map (·.1))[j]? = some k := by
          rw [KV.keys rk, List.getElem?_map, hky] <;> rfl
        have k2 : (kvs.map fun kv => kV kv.1)[j]? = some (kV k) := by
          have k3 : (kvs.map fun kv => kV kv.1) = (kvs.map (·.1)).map kV := by rw [List.map_map] <;> rfl
          rw [k3, List.getElem?_map, k1] <;> rfl
        rw [k2] at h1
        cases h1
        exact keyIs_rel hi
      · rw [Array.toArray_toList]; exact hS
    show wpAny _ _ (callWith kpos (.builtin "dict.keys") [.ref d] [] []) _ X.xe s1
    exact method_meetsIn PySem.F.slot_dict_keys PySem.F.entry_dict_keys rfl (PySem.evalArgs_none ⟨rfl, hd.typeIs, PySem.F.args_dict_keys_1 _, _, PySem.W.kdl_meets_keys (mixKind X.prog X.w) d lo, ⟨vs, hd⟩, args_nil fin⟩)
/-! ### instances -/
omit hc in
theorem fld_of {ρ : Nat → Addr} {S : Sto} {H : Hp} {x : D} {v : V} {f : Str} {Q : VK} (hcl : ∀ c C, T c = some (C, none) → Cls X.K C ∧ NoAttr X.K C f) (w : Wd T X.K ρ S H) (r : RD X.K ρ S.length H x v) (h : wpFld x f S (Pst T X.K ρ S.length H Q)) : ∃ a C dx fs u, v = .ref a ∧ H a = some (.ins C dx fs) ∧ Cls X.K C ∧ NoAttr X.K C f ∧ fs.lookup f = some u ∧ Q u H := by
  cases r with
  | ref hl =>
    simp only [wpFld] at h
    split at h
    · rename_i c fs e
      split at h
      · rename_i d hd
        obtain ⟨C, dx, vs, t, q, _, ke, rd⟩ := w.insAt e
        obtain ⟨u, hu, ru⟩ := fld_rd f ke rd d hd
        obtain ⟨c1, c2⟩ := hcl _ _ t
        exact ⟨_, C, dx, vs, u, rfl, q, c1, c2, hu, h.here w ru⟩
      · exact h.elim
    · exact h.elim
  | _ => exact h.elim
theorem sd_fld {f : Str} (hcl : ∀ c C, T c = some (C, none) → Cls X.K C ∧ NoAttr X.K C f) (hb : attributeBase o f X.env (eval o X.env) = eval o X.env) (ho : PE X o (tE T X.K c W xo)) : PE X (.Attribute o f pos) (tE T X.K c W (.fld xo f)) := impE (pe_fld ho hb) fun ς H Q ⟨ρ, σ, S, E, s, h⟩ => by
  simp only [wpE] at h
  exact tE_of hc s h fun x S1 ρ1 H1 v h1 e1 w1 r1 => fld_of hcl w1 r1 (wpFld_mono h1 fun d S' q => q.ext e1)
end
end MP
/-! MPEnum: enumerate over a tuple, a list. -/
namespace MP
open PySem PySem.Spec PyProof.Rows L2

/-- enumerate with one argument: its new cells -/
theorem enum_new1 {v : Value} {o : Obj} {G : Heap → Prop} (B : Begins v o G) :
    Meets (Builtin.«enumerate.__new__» ⟨[.type "enumerate", v], []⟩) (fun _ R s => G s.heap ∧
      R (.ok (.ret (.ref (s.heap.push o).objs.size))) { s with heap := (s.heap.push o).push { cls := .type "enumerate", data := .fields #[.none, .bool false, .ref s.heap.objs.size, rawInt 0, .none, .none] } }) :=
  .of_wp fun prog w A R s h => by
    obtain ⟨hp, g, d, tk, os⟩ := s
    obtain ⟨g1, h⟩ := h
    have hsub := sub_enumerate
    have bi : ∀ {A' : Around} {E : Value → Shared → Prop} {Q : Value → Shared → Prop}, Q (.ref hp.objs.size) ⟨hp.push o, g, d, tk, os⟩ → wpAny (model prog w) A' (pyIter v) Q E ⟨hp, g, d, tk, os⟩ :=
      fun q => B.iter prog w _ _ ⟨hp, g, d, tk, os⟩ _ g1 q
    wp_walk using bi
    refine wpAny_stack_any fun stk => wpAny_pure ?_
    split
    · rename_i cv _ _ _ _ _
      cases (cv == Value.type "enumerate")
      · wp_walk using bi
        exact ⟨_, rfl, h⟩
      · wp_walk using bi
        exact ⟨_, rfl, h⟩
    · wp_walk using bi
      exact ⟨_, rfl, h⟩
theorem call_enum1 {prog : Program} {w : World} {A : Around} {E : Value → Shared → Prop} {s : Shared} {v : Value} {o : Obj} {G : Heap → Prop} {Q : Value → Shared → Prop} (B : Begins v o G) (g1 : G s.heap)
    (h : ∀ h', IsEnum h' (s.heap.objs.size + 1) s.heap.objs.size 0 .none → h'.get? s.heap.objs.size = some o → (∀ b u, s.heap.get? b = some u → h'.get? b = some u) → Q (.ref (s.heap.objs.size + 1)) { s with heap := h' }) :
    wpAny (model prog w) A (call (.type "enumerate") [v]) Q E s := by
  refine callType_new F.called_enumerate (by decide) (F.typeCall_enumerate_1 _) (F.newCall_enumerate_1 _) (fun obj => F.args_object_init_2 obj _) F.entry_enumerate_new (enum_new1 B) ⟨g1, ?_⟩
  have sz : (s.heap.push o).objs.size = s.heap.objs.size + 1 := Heap.size_push ..
  have at1 : ((s.heap.push o).push { cls := .type "enumerate", data := .fields #[.none, .bool false, .ref s.heap.objs.size, rawInt 0, .none, .none] }).get? (s.heap.objs.size + 1) = some { cls := .type "enumerate", data := .fields #[.none, .bool false, .ref s.heap.objs.size, rawInt 0, .none, .none] } := by
    rw [← sz]
    exact Heap.get?_push_size _ rfl
  show _ ∧ _
  rw [sz]
  exact ⟨⟨_, at1, rfl⟩, h _ at1 (Heap.get?_push_of_some _ (Heap.get?_push_size _ B.free)) fun b u x => Heap.get?_push_of_some _ (Heap.get?_push_of_some _ x)⟩

/-- what stands at a, each with its place in a new pair -/
def IteG (R : Hp → List V → Prop) : It :=
  ⟨fun i H => ∃ (xs : List V) (x : V), R H xs ∧ xs[i]? = some x, fun i H v H' => ∃ (q : Addr) (x : V) (o : Obj), v = .ref q ∧ H q = none ∧ o.dict = none ∧ H' = upd H q (.frz o (.tup [.int (i : Nat), x])) ∧ ∀ xs, R H xs → xs[i]? = some x, fun i H => ∃ xs : List V, R H xs ∧ xs.length ≤ i⟩
abbrev IteT (K : PySem.W.Frag) (a : Addr) : It := IteG fun H xs => SqT K H a xs
abbrev IteL (K : PySem.W.Frag) (a : Addr) : It := IteG fun H xs => SqL K H a xs
/-- the iterator's state -/
def EnT (a e it : Addr) (i : Nat) (h : Heap) : Prop := (∃ old, IsEnum h e it ((i : Nat) : Int) old) ∧ h.IsTupleIter it a i ∧ e ≠ it ∧ a ≠ it ∧ a ≠ e
theorem turn_enT {P : Program} {w : World} {K : PySem.W.Frag} {elts : List Expr} {kk : Nat} {tpos : Pos} (a e it : Addr) : Turn P w K (.Tuple elts kk tpos) (IteT K a) [e, it] e (EnT a e it) where
  mem := List.mem_cons_self
  obj := fun i h st b hb => by
    obtain ⟨⟨old, he⟩, ⟨o, ho, _, hd⟩, _⟩ := st
    rcases List.mem_cons.mp hb with rfl | hb
    · exact ⟨_, he, fun v q => nomatch q⟩
    · rw [List.mem_singleton.mp hb]
      exact ⟨o, ho, fun v q => by rw [hd] at q; cases q⟩
  keep := fun i h h' st k => by
    obtain ⟨⟨old, he⟩, hi, n⟩ := st
    exact ⟨⟨old, k e List.mem_cons_self _ he⟩, hi.at fun o q => k it (List.mem_cons_of_mem _ List.mem_cons_self) o q, n⟩
  item := by
    intro X hP hw hK hc i pins s σ H E I hf st hg
    subst hP hw hK
    obtain ⟨⟨old, he⟩, hit, hne, hai, hae⟩ := st
    obtain ⟨xs, x, hq, hx⟩ := hg
    obtain ⟨its, rv, p, hz⟩ := I.tuple hq
    obtain ⟨u, hu, ru⟩ := rv.get hx
    have hs : i < its.toArray.size := by
      have := (List.getElem?_eq_some_iff.mp hu).1
      simpa using this
    have Dr := Draws.tuple (prog := X.prog) (w := X.w) (A := X.A.in1) (I.ok.hd hc) it a hai its.toArray
    have el : e < s.heap.objs.size := Heap.lt_size he
    have il : it < s.heap.objs.size := by obtain ⟨_, q, _⟩ := hit; exact Heap.lt_size q
    refine wpAny_pyNext_enum_itemD Dr he ⟨hit, p⟩ hs hne (by simp; exact ⟨hne, fun z => hae z.symm⟩) fun y h' tk hP ho hst hT hsz hk => ?_
    have ey : y = u := by
      have : its.toArray[i]? = some u := by simpa using hu
      rw [this] at hP
      exact (Option.some.inj hP).symm
    subst ey
    refine ⟨_, rfl, wpAny_letOwnedTupleGo_enum (s := { s with heap := h', toks := tk + 1 }) ho fun h2 he2 sb => ?_⟩
    have hT2 : h2.get? s.heap.objs.size = some { cls := .type "tuple", data := .seq #[.int i tk, y] } := (sb.2 _ (Nat.ne_of_gt el)).trans hT
    have mk : ObjOk X.prog X.w (upd H s.heap.objs.size (.frz { cls := .type "tuple", data := .seq #[.int i tk, y] } (.tup [.int (i : Nat), x]))) h2 s.heap.objs.size (.frz { cls := .type "tuple", data := .seq #[.int i tk, y] } (.tup [.int (i : Nat), x])) :=
      ⟨hT2, by show 2 ≤ sizeLine; decide, [.int i tk, y], .cons ⟨_, rfl⟩ (.cons ru .nil), ⟨_, hT2, rfl, _, rfl⟩⟩
    have ne2 : ∀ {b : Addr}, b ∉ [e, it] → b ≠ e ∧ b ≠ it := fun {b} hb => ⟨fun z => hb (by simp [z]), fun z => hb (by simp [z])⟩
    have J : Inv X pins σ (upd H s.heap.objs.size (.frz { cls := .type "tuple", data := .seq #[.int i tk, y] } (.tup [.int (i : Nat), x]))) { s with heap := h2, toks := tk + 1 } :=
      I.turnedNew (ch := [e, it]) (fun b ob hb q => (sb.2 b (ne2 hb).1).trans (hk b ob (ne2 hb).1 (ne2 hb).2 q)) hf (Nat.le_refl _) mk
    refine ⟨.ref s.heap.objs.size, _, J, rfl, ⟨_, x, _, rfl, I.hok.fresh (Nat.le_refl _), rfl, rfl, fun ys hy => by rw [I.tuple_inj hy hq]; exact hx⟩, ⟨⟨y, ?_⟩, hst.1.at fun o q => (sb.2 it (Ne.symm hne)).trans q, hne, hai, hae⟩, fun b hb => ?_⟩
    · have e1 : ((i + 1 : Nat) : Int) = (i : Int) + 1 := by omega
      rw [e1]
      exact he2
    · have lb : b < s.heap.objs.size := by
        rcases List.mem_cons.mp hb with z | z
        · rw [z]; exact el
        · rw [List.mem_singleton.mp z]; exact il
      rw [upd_ne (Nat.ne_of_lt lb)]
      exact (hf b hb).1
  done := by
    intro X hP hw hK hc i pins s σ H E I hf st hg
    subst hP hw hK
    obtain ⟨⟨old, he⟩, hit, hne, hai, hae⟩ := st
    obtain ⟨xs, hq, hx⟩ := hg
    obtain ⟨its, rv, p, hz⟩ := I.tuple hq
    obtain ⟨f0, f1, f2, f3, f4, f5⟩ := hf it (List.mem_cons_of_mem _ List.mem_cons_self)
    have hl := rv.length
    have hT : s.TypeIs (.ref e) "enumerate" := ⟨_, he, rfl⟩
    unfold pyNext
    refine wpAny_bind (wpAny_attempt (wpAny_callSpecial?_slot (name := Str.ofString "__next__") hT F.slot_enumerate_next (wpAny_call_entry F.slot_enumerate_next hT F.entry_enumerate_next ?_ (F.args_enumerate_next_1 _))))
    show wpAny _ _ (field (.ref e) 2 >>= _) _ _ _
    refine wpAny_bind (wpAny_field he rfl (x := .ref it) rfl ?_)
    refine wpAny_bind (wpAny_nextOf_tuple_end (A := X.A.in1) (I.ok.hd hc) hit p (by simp; omega) fun h' z e1 e2 => ?_)
    obtain ⟨o, ho, hcl⟩ := e2
    refine wpAny_bind (wpAny_isInstance (T := "StopIteration") (b := true) ⟨o, ho, hcl⟩ isSubtype_stop ?_)
    exact wpAny_pure ⟨rfl, I.turned (t' := s.toks) (fun b o hb q => e1 b o hb q) f0 f1 f3 f4 f5⟩
  self := fun A i s Q E st h => by
    obtain ⟨⟨_, he⟩, _⟩ := st
    exact wpAny_pyIter_enum he h
theorem turn_enL {P : Program} {w : World} {K : PySem.W.Frag} {elts : List Expr} {kk : Nat} {tpos : Pos} (a e it : Addr) : Turn P w K (.Tuple elts kk tpos) (IteL K a) [e, it] e (fun i h => (∃ old, IsEnum h e it ((i : Nat) : Int) old) ∧ h.IsListIter it a i ∧ e ≠ it) where
  mem := List.mem_cons_self
  obj := fun i h st b hb => by
    obtain ⟨⟨old, he⟩, ⟨o, ho, _, hd⟩, _⟩ := st
    rcases List.mem_cons.mp hb with rfl | hb
    · exact ⟨_, he, fun v q => nomatch q⟩
    · rw [List.mem_singleton.mp hb]
      exact ⟨o, ho, fun v q => by rw [hd] at q; cases q⟩
  keep := fun i h h' st k => by
    obtain ⟨⟨old, he⟩, hi, n⟩ := st
    exact ⟨⟨old, k e List.mem_cons_self _ he⟩, hi.at fun o q => k it (List.mem_cons_of_mem _ List.mem_cons_self) o q, n⟩
  item := by
    intro X hP hw hK hc i pins s σ H E I hf st hg
    subst hP hw hK
    obtain ⟨⟨old, he⟩, hit, hne⟩ := st
    obtain ⟨xs, x, hq, hx⟩ := hg
    obtain ⟨its, rv, p, hz⟩ := I.list hq
    obtain ⟨u, hu, ru⟩ := rv.get hx
    have el : e < s.heap.objs.size := Heap.lt_size he
    have il : it < s.heap.objs.size := by obtain ⟨_, q, _⟩ := hit; exact Heap.lt_size q
    refine wpAny_pyNext_enum_item he hit p.isList (x := u) (by simpa using hu) hne fun h' ho hst hT hsz hk => ?_
    refine ⟨_, rfl, wpAny_letOwnedTupleGo_enum (s := { s with heap := h', toks := s.toks + 1 }) ho fun h2 he2 sb => ?_⟩
    have hT2 : h2.get? s.heap.objs.size = some { cls := .type "tuple", data := .seq #[.int i s.toks, u] } := (sb.2 _ (Nat.ne_of_gt el)).trans hT
    have mk : ObjOk X.prog X.w (upd H s.heap.objs.size (.frz { cls := .type "tuple", data := .seq #[.int i s.toks, u] } (.tup [.int (i : Nat), x]))) h2 s.heap.objs.size (.frz { cls := .type "tuple", data := .seq #[.int i s.toks, u] } (.tup [.int (i : Nat), x])) :=
      ⟨hT2, by show 2 ≤ sizeLine; decide, [.int i s.toks, u], .cons ⟨_, rfl⟩ (.cons ru .nil), ⟨_, hT2, rfl, _, rfl⟩⟩
    have ne2 : ∀ {b : Addr}, b ∉ [e, it] → b ≠ e ∧ b ≠ it := fun {b} hb => ⟨fun z => hb (by simp [z]), fun z => hb (by simp [z])⟩
    have J : Inv X pins σ (upd H s.heap.objs.size (.frz { cls := .type "tuple", data := .seq #[.int i s.toks, u] } (.tup [.int (i : Nat), x]))) { s with heap := h2, toks := s.toks + 1 } :=
      I.turnedNew (ch := [e, it]) (fun b ob hb q => (sb.2 b (ne2 hb).1).trans (hk b ob (ne2 hb).1 (ne2 hb).2 q)) hf (Nat.le_refl _) mk
    refine ⟨.ref s.heap.objs.size, _, J, rfl, ⟨_, x, _, rfl, I.hok.fresh (Nat.le_refl _), rfl, rfl, fun ys hy => by rw [I.list_inj hy hq]; exact hx⟩, ⟨⟨u, ?_⟩, hst.at fun o q => (sb.2 it (Ne.symm hne)).trans q, hne⟩, fun b hb => ?_⟩
    · have e1 : ((i + 1 : Nat) : Int) = (i : Int) + 1 := by omega
      rw [e1]
      exact he2
    · have lb : b < s.heap.objs.size := by
        rcases List.mem_cons.mp hb with z | z
        · rw [z]; exact el
        · rw [List.mem_singleton.mp z]; exact il
      rw [upd_ne (Nat.ne_of_lt lb)]
      exact (hf b hb).1
  done := by
    intro X hP hw hK hc i pins s σ H E I hf st hg
    subst hP hw hK
    obtain ⟨⟨old, he⟩, hit, hne⟩ := st
    obtain ⟨xs, hq, hx⟩ := hg
    obtain ⟨its, rv, p, hz⟩ := I.list hq
    obtain ⟨f0, f1, f2, f3, f4, f5⟩ := hf it (List.mem_cons_of_mem _ List.mem_cons_self)
    have hl := rv.length
    exact wpAny_pyNext_enum_end (I.ok.hd hc) he hit p.isList (by simp; omega) fun h' eb => ⟨rfl, I.turned (t' := s.toks) (fun b o hb q => eb b o hb q) f0 f1 f3 f4 f5⟩
  self := fun A i s Q E st h => by
    obtain ⟨⟨_, he⟩, _⟩ := st
    exact wpAny_pyIter_enum he h
def iEnumA (K : PySem.W.Frag) (tl : TE) : TI := fun ς H R => tl ς H fun x H1 => ∃ a, x = .ref a ∧ (((∃ xs, SqL K H1 a xs) ∧ R (IteL K a) H1) ∨ ((∃ xs, SqT K H1 a xs) ∧ R (IteT K a) H1))
theorem pi_enumA {X : Cx} {e : Expr} {te : TE} {p pos tpos : Pos} {elts : List Expr} {kk : Nat} (hg : Gl X "enumerate") (hm : X.mg "enumerate" = none) (he : PE X e te) (hs : starEach [e] X.env = [(false, eval e X.env)]) :
    PI X (.Tuple elts kk tpos) (.Call (.Name "enumerate" p) [e] [] pos) (iEnumA X.K te) := by
  refine ⟨fun pins s σ H R I h => ?_⟩
  have ha : PA X [e] (fun ς H Q => te ς H fun x H1 => Q [x] H1) := pa_cons he pa_nil hs
  refine Call_ (ld_blt I hg hm boot_enumerate (PyProof.Rows.callWith_type1 (thn (ha.run pos pins s σ H (fun vs H1 => match vs with
    | [x] => ∃ a, x = .ref a ∧ (((∃ xs, SqL X.K H1 a xs) ∧ R (IteL X.K a) H1) ∨ ((∃ xs, SqT X.K H1 a xs) ∧ R (IteT X.K a) H1))
    | _ => False) I h) fun us s1 z => ?_) hs rfl))
  obtain ⟨vs, H1, I1, r1, q1⟩ := z
  obtain ⟨x, rfl⟩ : ∃ x, vs = [x] := by
    cases r1 with
    | nil => exact q1.elim
    | cons r rr => cases rr with
      | nil => exact ⟨_, rfl⟩
      | cons _ _ => exact q1.elim
  obtain ⟨a, rfl, q⟩ := q1
  cases r1 with
  | cons r rr =>
    cases rr
    cases r
    have fp : ∀ b ∈ [s1.heap.objs.size + 1, s1.heap.objs.size], FpOk X pins H1 b := fun b hb => by
      have hle : s1.heap.objs.size ≤ b := by
        rcases List.mem_cons.mp hb with z | z
        · rw [z]; exact Nat.le_succ _
        · rw [List.mem_singleton.mp z]; exact Nat.le_refl _
      exact I1.fpOk hle (I1.hok.fresh hle)
    rcases q with ⟨⟨xs, hq⟩, q⟩ | ⟨⟨xs, hq⟩, q⟩
    · obtain ⟨its, rv, p', _⟩ := I1.list hq
      refine call_enum1 (begins_list a its.toArray) p'.isList fun h' h1 h2 hk => wpAny_pyIter_enum h1 ?_
      exact ⟨s1.heap.objs.size + 1, _, _, _, H1, rfl, I1.kept (t' := s1.toks) hk, turn_enL a (s1.heap.objs.size + 1) s1.heap.objs.size, ⟨⟨.none, h1⟩, ⟨_, h2, rfl, rfl⟩, Nat.succ_ne_self _⟩, fp, q⟩
    · obtain ⟨its, rv, p', _⟩ := I1.tuple hq
      have pt : s1.heap.IsTuple a its.toArray := p'
      have al : a < s1.heap.objs.size := by obtain ⟨o, ho, _⟩ := pt; exact Heap.lt_size ho
      refine call_enum1 (begins_tuple a its.toArray) pt fun h' h1 h2 hk => wpAny_pyIter_enum h1 ?_
      exact ⟨s1.heap.objs.size + 1, _, _, _, H1, rfl, I1.kept (t' := s1.toks) hk, turn_enT a (s1.heap.objs.size + 1) s1.heap.objs.size, ⟨⟨.none, h1⟩, ⟨_, h2, rfl, rfl⟩, Nat.succ_ne_self _, Nat.ne_of_lt al, Nat.ne_of_lt (Nat.lt_succ_of_lt al)⟩, fp, q⟩
end MP
/-! MPZip: zip of two tuples; its pairs have no dict. -/
namespace MP
open PySem PySem.Spec PyProof.Rows L2

/-- the things of two tuples, side by side in new pairs -/
def Itzz (K : PySem.W.Frag) (a b : Addr) : It :=
  ⟨fun i H => ∃ (xs ys : List V) (x y : V), SqT K H a xs ∧ SqT K H b ys ∧ xs[i]? = some x ∧ ys[i]? = some y,
    fun i H v H' => ∃ (q : Addr) (x y : V) (o : Obj), v = .ref q ∧ H q = none ∧ o.dict = none ∧ H' = upd H q (.frz o (.tup [x, y])) ∧ (∀ xs, SqT K H a xs → xs[i]? = some x) ∧ ∀ ys, SqT K H b ys → ys[i]? = some y,
    fun i H => ∃ xs ys : List V, SqT K H a xs ∧ SqT K H b ys ∧ (xs.length ≤ i ∨ ys.length ≤ i)⟩
theorem turn_zz {P : Program} {w : World} {K : PySem.W.Frag} {elts : List Expr} {kk : Nat} {tpos : Pos} {a b z t1 t2 i1 i2 : Addr} (D : ZipApart z t1 t2 i1 i2 a b) :
    Turn P w K (.Tuple elts kk tpos) (Itzz K a b) [z, t1, t2, i1, i2] z (fun i h => IsZip h z t1 t2 .none ∧ IsPair h t1 (.ref i1) (.ref i2) ∧ (∃ x y, IsPair h t2 x y) ∧ h.IsTupleIter i1 a i ∧ h.IsTupleIter i2 b i) where
  mem := List.mem_cons_self
  obj := (RZ.turn_zipT (P := P) (w := w) (K := K) (elts := elts) (kk := kk) (tpos := tpos) D).obj
  keep := (RZ.turn_zipT (P := P) (w := w) (K := K) (elts := elts) (kk := kk) (tpos := tpos) D).keep
  done := (RZ.turn_zipT (P := P) (w := w) (K := K) (elts := elts) (kk := kk) (tpos := tpos) D).done
  self := (RZ.turn_zipT (P := P) (w := w) (K := K) (elts := elts) (kk := kk) (tpos := tpos) D).self
  item := by
    intro X hP hw hK hc i pins s σ H E I hf st hg
    subst hP hw hK
    obtain ⟨hz, h1, ⟨x0, y0, h2⟩, j1, j2⟩ := st
    obtain ⟨xs, ys, x, y, hqx, hqy, hx, hy⟩ := hg
    obtain ⟨its, rv, p, _⟩ := I.tuple hqx
    obtain ⟨its2, rv2, p2, _⟩ := I.tuple hqy
    obtain ⟨u, hu, ru⟩ := rv.get hx
    obtain ⟨u2, hu2, ru2⟩ := rv2.get hy
    have zl : z < s.heap.objs.size := Heap.lt_size hz
    have off : ∀ {c : Addr}, c ∉ [z, t1, t2, i1, i2] → c ≠ z ∧ c ≠ t1 ∧ c ≠ t2 ∧ c ≠ i1 ∧ c ≠ i2 := fun {c} hb => by
      simp only [List.mem_cons, List.not_mem_nil, or_false, not_or] at hb
      exact hb
    refine RZ.pyNext_zipT_item D hz h1 h2 j1 j2 p p2 (x := u) (y := u2) (by simpa using hu) (by simpa using hu2) fun h' z1 k2 m1 m2 hT hsz hk => ?_
    refine ⟨_, rfl, wpAny_letOwnedTupleGo_zip (s := { s with heap := h' }) z1 fun h3 z3 sb => ?_⟩
    have hT2 : h3.get? s.heap.objs.size = some { cls := .type "tuple", data := .seq #[u, u2] } := (sb.2 _ (Nat.ne_of_gt zl)).trans hT
    have mk : ObjOk X.prog X.w (upd H s.heap.objs.size (.frz { cls := .type "tuple", data := .seq #[u, u2] } (.tup [x, y]))) h3 s.heap.objs.size (.frz { cls := .type "tuple", data := .seq #[u, u2] } (.tup [x, y])) :=
      ⟨hT2, by show 2 ≤ sizeLine; decide, [u, u2], .cons ru (.cons ru2 .nil), ⟨_, hT2, rfl, _, rfl⟩⟩
    have J : Inv X pins σ (upd H s.heap.objs.size (.frz { cls := .type "tuple", data := .seq #[u, u2] } (.tup [x, y]))) { s with heap := h3 } :=
      I.turnedNew (t' := s.toks) (ch := [z, t1, t2, i1, i2]) (fun c o hb q => (sb.2 c (off hb).1).trans (hk c o (by first | exact (off hb).1 | exact (off hb).2.1 | exact (off hb).2.2.1 | exact (off hb).2.2.2.1 | exact (off hb).2.2.2.2) (by first | exact (off hb).1 | exact (off hb).2.1 | exact (off hb).2.2.1 | exact (off hb).2.2.2.1 | exact (off hb).2.2.2.2) (by first | exact (off hb).1 | exact (off hb).2.1 | exact (off hb).2.2.1 | exact (off hb).2.2.2.1 | exact (off hb).2.2.2.2) (by first | exact (off hb).1 | exact (off hb).2.1 | exact (off hb).2.2.1 | exact (off hb).2.2.2.1 | exact (off hb).2.2.2.2) q)) hf (Nat.le_refl _) mk
    refine ⟨.ref s.heap.objs.size, _, J, rfl, ⟨_, x, y, _, rfl, I.hok.fresh (Nat.le_refl _), rfl, rfl, fun l hl => by rw [I.tuple_inj hl hqx]; exact hx, fun l hl => by rw [I.tuple_inj hl hqy]; exact hy⟩, ⟨z3, ?_, ⟨u, u2, ?_⟩, ?_, ?_⟩, fun c hcm => ?_⟩
    · exact (sb.2 _ D.TIz).trans (hk _ _ D.TIz D.TITO D.TIi1 D.TIi2 h1)
    · exact (sb.2 _ D.TOz).trans k2
    · exact m1.at fun o q => (sb.2 _ D.i1z).trans q
    · exact m2.at fun o q => (sb.2 _ D.i2z).trans q
    · have hlt : c < s.heap.objs.size := by
        simp only [List.mem_cons, List.not_mem_nil, or_false] at hcm
        rcases hcm with rfl | rfl | rfl | rfl | rfl
        · exact zl
        · exact Heap.lt_size h1
        · exact Heap.lt_size h2
        · obtain ⟨_, e1, _⟩ := j1; exact Heap.lt_size e1
        · obtain ⟨_, e2, _⟩ := j2; exact Heap.lt_size e2
      rw [upd_ne (Nat.ne_of_lt hlt)]
      exact (hf c hcm).1
def iZz (K : PySem.W.Frag) (ta : TA) : TI := fun σ H R => ta σ H fun vs H1 => ∃ a b xs ys, vs = [.ref a, .ref b] ∧ SqT K H1 a xs ∧ SqT K H1 b ys ∧ R (Itzz K a b) H1
theorem pi_zz {X : Cx} {e e2 : Expr} {ta : TA} {p pos tpos : Pos} {elts : List Expr} {kk : Nat} (hg : Gl X "zip") (hm : X.mg "zip" = none) (ha : PA X [e, e2] ta)
    (hs : starEach [e, e2] X.env = (false, eval e X.env) :: starEach [e2] X.env) (hpl : (backTo pos (starEach [e2] X.env)).any (·.1) = false) :
    PI X (.Tuple elts kk tpos) (.Call (.Name "zip" p) [e, e2] [] pos) (iZz X.K ta) := by
  refine ⟨fun pins s σ H R I h => ?_⟩
  refine Call_ (ld_blt I hg hm PyProof.Rows.boot_zip (PyProof.Rows.callWith_type1 (thn (ha.run pos pins s σ H _ I h) fun us s1 ⟨vs, H1, I1, r1, q1⟩ => ?_) hs hpl))
  obtain ⟨a, b, xs, ys, rfl, hqx, hqy, q⟩ := q1
  cases r1 with
  | cons r rr =>
    cases rr with
    | cons r' rr =>
      cases rr
      cases r
      cases r'
      have fp : ∀ c, c ∈ [s1.heap.objs.size + 4, s1.heap.objs.size + 2, s1.heap.objs.size + 3, s1.heap.objs.size, s1.heap.objs.size + 1] → FpOk X pins H1 c := fun c hcm => by
        have hle : s1.heap.objs.size ≤ c := by
          simp only [List.mem_cons, List.not_mem_nil, or_false] at hcm
          rcases hcm with rfl | rfl | rfl | rfl | rfl
          · exact Nat.le_add_right _ _
          · exact Nat.le_add_right _ _
          · exact Nat.le_add_right _ _
          · exact Nat.le_refl _
          · exact Nat.le_add_right _ _
        exact I1.fpOk hle (I1.hok.fresh hle)
      obtain ⟨its, rv, p1, _⟩ := I1.tuple hqx
      obtain ⟨its2, rv2, p2, _⟩ := I1.tuple hqy
      obtain ⟨o1, ho1, _⟩ := id p1
      obtain ⟨o2, ho2, _⟩ := id p2
      refine RZ.call_zipT (show s1.heap.IsTuple a its.toArray from p1) (show s1.heap.IsTuple b its2.toArray from p2) fun h' hz h1 h2 j1 j2 hsz hk => wpAny_pyIter_zip hz ?_
      exact ⟨s1.heap.objs.size + 4, [s1.heap.objs.size + 4, s1.heap.objs.size + 2, s1.heap.objs.size + 3, s1.heap.objs.size, s1.heap.objs.size + 1], _, _, H1, rfl, I1.kept (t' := s1.toks) hk, turn_zz (PySem.W.ktu_apart s1.heap.objs.size a b (Heap.lt_size ho1) (Heap.lt_size ho2)), ⟨hz, h1, ⟨_, _, h2⟩, j1, j2⟩, fp, q⟩
end MP
/-! MPLoop: targets, what is walked, comprehensions. -/
namespace MP
open PySem PySem.Spec PyProof.Rows L2

/-! ### targets -/
mutual
def gT (K : PySem.W.Frag) : Tg → TG
  | .nm i => gName i
  | .tp ts => gTup K ts.length (gTs K ts)
def gTs (K : PySem.W.Frag) : List Tg → TGs
  | [] => gNil
  | t :: ts => gCons (gT K t) (gTs K ts)
end
mutual
def slots : Tg → List Nat
  | .nm i => [i]
  | .tp ts => slotss ts
def slotss : List Tg → List Nat
  | [] => []
  | t :: ts => slots t ++ slotss ts
end
/-- outside of l nothing has changed -/
structure Keeps (l : List Nat) (ς ς' : L2.St) : Prop where
  len : ς'.length = ς.length
  out : ∀ i, i ∉ l → ς'[i]? = ς[i]?
theorem Keeps.refl {l : List Nat} {ς : L2.St} : Keeps l ς ς := ⟨rfl, fun _ _ => rfl⟩
theorem Keeps.trans {l l' : List Nat} {ς ς1 ς2 : L2.St} (a : Keeps l ς ς1) (b : Keeps l' ς1 ς2) : Keeps (l ++ l') ς ς2 :=
  ⟨b.len.trans a.len, fun i h => (b.out i fun z => h (List.mem_append_right _ z)).trans (a.out i fun z => h (List.mem_append_left _ z))⟩
section
variable {K : PySem.W.Frag} {ρ : Nat → Addr} {n : Nat} {H : Hp}
theorem ER.set {σ : Env} {ς : L2.St} {i : Nat} {d : D} {v : V} (r : ER K ρ n H σ ς) (q : RD K ρ n H d v) : ER K ρ n H (σ.set i (some d)) (ς.set i (some v)) := by
  refine ⟨by rw [List.length_set, List.length_set]; exact r.len, fun j e h => ?_⟩
  by_cases hj : i = j
  · subst hj
    by_cases hi : i < σ.length
    · rw [List.getElem?_set_self hi] at h
      cases h
      exact ⟨v, by rw [List.getElem?_set_self (by rw [← r.len]; exact hi)], q⟩
    · rw [List.getElem?_eq_none (by rw [List.length_set]; omega)] at h
      cases h
  · rw [List.getElem?_set_ne hj] at h
    rw [List.getElem?_set_ne hj]
    exact r.at_ j e h
mutual
theorem asg_ok : ∀ (t : Tg) {d : D} {v : V} {σ σ' : Env} {ς : L2.St} {Q : L2.St → Hp → Prop}, asg t d σ = some σ' → RD K ρ n H d v → ER K ρ n H σ ς → (∀ ς', ER K ρ n H σ' ς' → Keeps (slots t) ς ς' → Q ς' H) → gT K t v ς H Q
  | .nm i, d, v, σ, σ', ς, Q, h, r, e, k => by
    simp only [asg, Option.some.injEq] at h
    subst h
    simp only [gT, gName]
    refine k _ (e.set r) ⟨by rw [List.length_set], fun j hj => ?_⟩
    have : i ≠ j := fun z => hj (by simp [slots, z])
    rw [List.getElem?_set_ne this]
  | .tp ts, d, v, σ, σ', ς, Q, h, r, e, k => by
    cases r with
    | @tup xs p vs q s =>
      simp only [asg] at h
      simp only [gT, gTup]
      have hl := asgs_len ts h
      refine ⟨p, vs, rfl, q.t, by rw [← s.length]; exact hl, asgs_ok ts h s e fun ς' e' kp => k ς' e' ?_⟩
      simpa [slots] using kp
    | _ => simp [asg] at h
theorem asgs_ok : ∀ (ts : List Tg) {ds : List D} {vs : List V} {σ σ' : Env} {ς : L2.St} {Q : L2.St → Hp → Prop}, asgs ts ds σ = some σ' → RDs K ρ n H ds vs → ER K ρ n H σ ς → (∀ ς', ER K ρ n H σ' ς' → Keeps (slotss ts) ς ς' → Q ς' H) → gTs K ts vs ς H Q
  | [], ds, vs, σ, σ', ς, Q, h, r, e, k => by
    cases r with
    | nil =>
      simp only [asgs, Option.some.injEq] at h
      subst h
      simp only [gTs, gNil]
      exact ⟨trivial, k _ e Keeps.refl⟩
    | cons _ _ => simp [asgs] at h
  | t :: ts, ds, vs, σ, σ', ς, Q, h, r, e, k => by
    cases r with
    | nil => simp [asgs] at h
    | cons r1 rs =>
      simp only [asgs] at h
      cases h1 : asg t _ σ with
      | none => rw [h1] at h; cases h
      | some σ1 =>
        rw [h1] at h
        simp only [gTs, gCons]
        exact ⟨_, _, rfl, asg_ok t h1 r1 e fun ς1 e1 k1 => asgs_ok ts h rs e1 fun ς2 e2 k2 => k _ e2 (k1.trans k2)⟩
theorem asgs_len : ∀ (ts : List Tg) {ds : List D} {σ σ' : Env}, asgs ts ds σ = some σ' → ds.length = ts.length
  | [], [], _, _, _ => rfl
  | [], _ :: _, _, _, h => by simp [asgs] at h
  | _ :: _, [], _, _, h => by simp [asgs] at h
  | t :: ts, d :: ds, σ, σ', h => by
    simp only [asgs] at h
    cases h1 : asg t d σ with
    | none => rw [h1] at h; cases h
    | some σ1 =>
      rw [h1] at h
      rw [List.length_cons, List.length_cons, asgs_len ts h]
end
theorem wipe_get (ς : L2.St) : ∀ (vs : List Nat) (i : Nat), (wipe ς vs)[i]? = if i ∈ vs ∧ i < ς.length then some none else ς[i]?
  | [], i => by simp [wipe]
  | v :: vs, i => by
    unfold wipe
    have ih := wipe_get ς vs i
    by_cases hv : v = i
    · subst hv
      by_cases hl : v < ς.length
      · rw [List.getElem?_set_self (by rw [wipe_length]; exact hl), if_pos ⟨List.mem_cons_self, hl⟩]
      · rw [List.getElem?_eq_none (by rw [List.length_set, wipe_length]; omega), if_neg fun z => hl z.2, List.getElem?_eq_none (by omega)]
    · rw [List.getElem?_set_ne hv, ih]
      have e : (i ∈ v :: vs ∧ i < ς.length) ↔ (i ∈ vs ∧ i < ς.length) := by
        constructor
        · rintro ⟨h, h2⟩
          rcases List.mem_cons.mp h with z | z
          · exact absurd z.symm hv
          · exact ⟨z, h2⟩
        · rintro ⟨h, h2⟩
          exact ⟨List.mem_cons_of_mem _ h, h2⟩
      by_cases hc : i ∈ vs ∧ i < ς.length
      · rw [if_pos hc, if_pos (e.mpr hc)]
      · rw [if_neg hc, if_neg fun z => hc (e.mp z)]
theorem wipe_keeps {l vs : List Nat} {ς ς' : L2.St} (k : Keeps l (wipe ς vs) ς') (h : ∀ i ∈ l, i ∈ vs) : wipe ς' vs = wipe ς vs := by
  apply List.ext_getElem?
  intro i
  rw [wipe_get ς' vs i]
  have hl : ς'.length = ς.length := k.len.trans (wipe_length _ _)
  by_cases hi : i ∈ vs ∧ i < ς'.length
  · rw [if_pos hi, wipe_get ς vs i, if_pos ⟨hi.1, by rw [← hl]; exact hi.2⟩]
  · rw [if_neg hi]
    by_cases hv : i ∈ vs
    · have : ¬ i < ς'.length := fun z => hi ⟨hv, z⟩
      rw [List.getElem?_eq_none (by omega), List.getElem?_eq_none (by rw [wipe_length]; omega)]
    · exact k.out i fun z => hv (h i z)
theorem wipeE_length (σ : Env) : ∀ vs : List Nat, (wipeE σ vs).length = σ.length
  | [] => rfl
  | v :: vs => by unfold wipeE; rw [List.length_set, wipeE_length σ vs]
theorem ER.wipe {σ : Env} {ς : L2.St} (r : ER K ρ n H σ ς) : ∀ vs : List Nat, ER K ρ n H (wipeE σ vs) (wipe ς vs)
  | [] => r
  | v :: vs => by
    have ih := ER.wipe r vs
    refine ⟨by rw [wipeE_length, wipe_length]; exact r.len, fun i d h => ?_⟩
    unfold wipeE at h
    unfold L2.wipe
    by_cases hv : v = i
    · subst hv
      by_cases hl : v < (wipeE σ vs).length
      · rw [List.getElem?_set_self hl] at h; cases h
      · rw [List.getElem?_eq_none (by rw [List.length_set]; omega)] at h; cases h
    · rw [List.getElem?_set_ne hv] at h
      rw [List.getElem?_set_ne hv]
      exact ih.at_ i d h
end

/-! ### what is walked -/
section
variable {T : Tbl} {K : PySem.W.Frag}
structure ItOk (J : It) (xs : List D) (gs : List (Nat × List D)) (ρ0 : Nat → Addr) (n0 : Nat) (H0 : Hp) : Prop where
  go : ∀ ρ S H i d, Ext K ρ0 n0 H0 ρ S.length H → Wd T K ρ S H → Gd gs S → xs[i]? = some d → J.go i H
  yld : ∀ ρ S H i d v H', Ext K ρ0 n0 H0 ρ S.length H → Wd T K ρ S H → Gd gs S → xs[i]? = some d → J.yld i H v H' → Ext K ρ S.length H ρ S.length H' ∧ Wd T K ρ S H' ∧ RD K ρ S.length H' d v ∧ ∀ p o, H p = some o → H' p = some o
  stop : ∀ ρ S H i, Ext K ρ0 n0 H0 ρ S.length H → Wd T K ρ S H → Gd gs S → xs.length ≤ i → J.stop i H
end
section
variable (T : Tbl) (K : PySem.W.Frag) (c : CallT) (W : WX)
def tI (x : MI) : TI := fun ς H R => ∃ ρ σ S E, St0 T K W ρ σ S E ς H ∧ wpI c x E σ S fun xs gs S1 => ∀ ρ' H' J, Ext K ρ S.length H ρ' S1.length H' → Wd T K ρ' S1 H' → ItOk (T := T) (K := K) J xs gs ρ' S1.length H' → R J H'
def iSeq (tl : TE) : TI := fun ς H R => tl ς H fun x H1 => (∃ a, x = .ref a ∧ (((∃ xs, SqL K H1 a xs) ∧ R (Itl K a) H1) ∨ ((∃ xs, SqT K H1 a xs) ∧ R (Itt K a) H1))) ∨ ∃ z, x = .str z ∧ R (Its z) H1
end
theorem impI {X : Cx} {tg e : Expr} {t t' : TI} (h : PI X tg e t) (i : ∀ ς H R, t' ς H R → t ς H R) : PI X tg e t' := ⟨fun pins s ς H R I q => h.run pins s ς H R I (i ς H R q)⟩
theorem pi_seq {X : Cx} {tg l : Expr} {tl : TE} (hl : PE X l tl) : PI X tg l (iSeq X.K tl) := by
  refine ⟨fun pins s ς H R I h => thn (hl.run pins s ς H _ I h) fun v s1 ⟨x, H1, I1, r1, q0⟩ => ?_⟩
  rcases q0 with ⟨a, ea, q1⟩ | ⟨z, ez, q⟩
  rotate_left
  · subst ez
    obtain ⟨t, rfl⟩ := r1
    cases ha : z.cps.all (· < 128) with
    | false => exact wpAny_pyIter_wide ha (pi_one (tk := s1.toks) I1 _ (turn_str _ z t "str_iterator" (.inr rfl)) ⟨_, Heap.get?_push_size _ rfl, rfl, rfl⟩ q)
    | true => exact wpAny_pyIter_ascii ha (pi_one (tk := s1.toks) I1 _ (turn_str _ z t "str_ascii_iterator" (.inl rfl)) ⟨_, Heap.get?_push_size _ rfl, rfl, rfl⟩ q)
  subst ea
  cases r1
  have fp : ∀ b ∈ [s1.heap.objs.size], FpOk X pins H1 b := fun b hb => by
    rw [List.mem_singleton.mp hb]
    exact I1.fpOk (Nat.le_refl _) (I1.hok.fresh (Nat.le_refl _))
  rcases q1 with ⟨⟨xs, hq⟩, q⟩ | ⟨⟨xs, hq⟩, q⟩
  · obtain ⟨its, rv, p, _⟩ := I1.list hq
    exact wpAny_pyIter_list p.isList ⟨_, _, _, _, H1, rfl, I1.kept (t' := s1.toks) (fun b o e => Heap.get?_push_of_some _ e), turn_list a _, ⟨_, Heap.get?_push_size _ rfl, rfl, rfl⟩, fp, q⟩
  · obtain ⟨its, rv, p, _⟩ := I1.tuple hq
    exact wpAny_pyIter_tuple (show s1.heap.IsTuple a its.toArray from p) ⟨_, _, _, _, H1, rfl, I1.kept (t' := s1.toks) (fun b o e => Heap.get?_push_of_some _ e), turn_tuple a _, ⟨_, Heap.get?_push_size _ rfl, rfl, rfl⟩, fp, q⟩

theorem itOk_list {T : Tbl} {K : PySem.W.Frag} {a : Nat} {xs : List D} {ρ0 : Nat → Addr} {S0 : Sto} {H0 : Hp} (ha : a < S0.length) : ItOk (T := T) (K := K) (Itl K (ρ0 a)) xs [(a, xs)] ρ0 S0.length H0 := by
  have rd : ∀ {ρ : Nat → Addr} {S : Sto} {H : Hp}, Ext K ρ0 S0.length H0 ρ S.length H → Wd T K ρ S H → Gd [(a, xs)] S → ∃ vs, SqL K H (ρ0 a) vs ∧ RDs K ρ S.length H xs vs := fun e w g => by
    obtain ⟨vs, q, r⟩ := w.seqAt (g (a, xs) List.mem_cons_self)
    rw [e.ag a ha] at q
    exact ⟨vs, q, r⟩
  refine ⟨fun ρ S H i d e w g h => ?_, fun ρ S H i d v H' e w g h y => ?_, fun ρ S H i e w g h => ?_⟩
  · obtain ⟨vs, q, r⟩ := rd e w g
    obtain ⟨v, hv, _⟩ := r.get h
    exact ⟨vs, v, q, hv⟩
  · obtain ⟨vs, q, r⟩ := rd e w g
    obtain ⟨u, hu, ru⟩ := r.get h
    obtain ⟨rfl, f⟩ := y
    have ev := f vs q
    rw [hu] at ev
    cases ev
    exact ⟨Ext.refl, w, ru, fun _ _ z => z⟩
  · obtain ⟨vs, q, r⟩ := rd e w g
    exact ⟨vs, q, by rw [← r.length]; exact h⟩
theorem itOk_tup {T : Tbl} {K : PySem.W.Frag} {p : Addr} {xs : List D} {vs : List V} {ρ0 : Nat → Addr} {n0 : Nat} {H0 : Hp} (hp : SqN K H0 p vs) (r0 : RDs K ρ0 n0 H0 xs vs) : ItOk (T := T) (K := K) (Itt K p) xs [] ρ0 n0 H0 := by
  refine ⟨fun ρ S H i d e w g h => ?_, fun ρ S H i d v H' e w g h y => ?_, fun ρ S H i e w g h => ?_⟩
  · obtain ⟨v, hv, _⟩ := r0.get h
    exact ⟨vs, v, (e.tp _ _ hp).t, hv⟩
  · obtain ⟨u, hu, ru⟩ := r0.get h
    obtain ⟨rfl, f⟩ := y
    have ev := f vs (e.tp _ _ hp).t
    rw [hu] at ev
    cases ev
    exact ⟨Ext.refl, w, ru.ext e, fun _ _ z => z⟩
  · exact ⟨vs, (e.tp _ _ hp).t, by rw [← r0.length]; exact h⟩
theorem itOk_str {T : Tbl} {K : PySem.W.Frag} {z : Str} {ρ0 : Nat → Addr} {n0 : Nat} {H0 : Hp} : ItOk (T := T) (K := K) (Its z) (signsD z) [] ρ0 n0 H0 := by
  have at_ : ∀ {i : Nat} {d : D}, (signsD z)[i]? = some d → ∃ c, z.cps[i]? = some c ∧ d = .str ⟨#[c]⟩ := fun {i d} h => by
    unfold signsD at h
    rw [List.getElem?_map] at h
    obtain ⟨c, h1, h2⟩ := Option.map_eq_some_iff.mp h
    exact ⟨c, by rw [← Array.getElem?_toList]; exact h1, h2.symm⟩
  refine ⟨fun ρ S H i d e w g h => ?_, fun ρ S H i d v H' e w g h y => ?_, fun ρ S H i e w g h => ?_⟩
  · obtain ⟨c, h1, _⟩ := at_ h
    exact (Array.getElem?_eq_some_iff.mp h1).1
  · obtain ⟨c, h1, rfl⟩ := at_ h
    obtain ⟨rfl, c', h2, rfl⟩ := y
    rw [h1] at h2
    cases h2
    exact ⟨Ext.refl, w, .str _, fun _ _ z => z⟩
  · unfold signsD at h
    rw [List.length_map, Array.length_toList] at h
    exact h
theorem itOk_klst {T : Tbl} {K : PySem.W.Frag} {p : Addr} {xs : List D} {vs : List V} {ρ0 : Nat → Addr} {n0 : Nat} {H0 : Hp} (hp : SqF K H0 p vs) (r0 : RDs K ρ0 n0 H0 xs vs) : ItOk (T := T) (K := K) (Itl K p) xs [] ρ0 n0 H0 := by
  refine ⟨fun ρ S H i d e w g h => ?_, fun ρ S H i d v H' e w g h y => ?_, fun ρ S H i e w g h => ?_⟩
  · obtain ⟨v, hv, _⟩ := r0.get h
    exact ⟨vs, v, (e.fz _ _ hp).l, hv⟩
  · obtain ⟨u, hu, ru⟩ := r0.get h
    obtain ⟨rfl, f⟩ := y
    have ev := f vs (e.fz _ _ hp).l
    rw [hu] at ev
    cases ev
    exact ⟨Ext.refl, w, ru.ext e, fun _ _ z => z⟩
  · exact ⟨vs, (e.fz _ _ hp).l, by rw [← r0.length]; exact h⟩
theorem itOk_rg {T : Tbl} {K : PySem.W.Frag} {i j : Int} {ρ0 : Nat → Addr} {n0 : Nat} {H0 : Hp} : ItOk (T := T) (K := K) (Itr i (j - i).toNat) (rgD i j) [] ρ0 n0 H0 := by
  have len : (rgD i j).length = (j - i).toNat := by unfold rgD; rw [List.length_map, List.length_range]
  refine ⟨fun ρ S H k d e w g h => ?_, fun ρ S H k d v H' e w g h y => ?_, fun ρ S H k e w g h => ?_⟩
  · have := (List.getElem?_eq_some_iff.mp h).1
    rw [len] at this
    exact this
  · obtain ⟨rfl, rfl⟩ := y
    unfold rgD at h
    rw [List.getElem?_map] at h
    obtain ⟨m, hm, rfl⟩ := Option.map_eq_some_iff.mp h
    have := List.getElem?_eq_some_iff.mp hm
    obtain ⟨hl, rfl⟩ := this
    rw [List.getElem_range]
    exact ⟨Ext.refl, w, .int _, fun _ _ z => z⟩
  · rw [len] at h
    exact h
theorem itOk_rgD {T : Tbl} {K : PySem.W.Frag} {i j : Int} {ρ0 : Nat → Addr} {n0 : Nat} {H0 : Hp} : ItOk (T := T) (K := K) (Itc i (-1) (i - j).toNat) (rgDn i j) [] ρ0 n0 H0 := by
  have len : (rgDn i j).length = (i - j).toNat := by unfold rgDn; rw [List.length_map, List.length_range]
  refine ⟨fun ρ S H k d e w g h => ?_, fun ρ S H k d v H' e w g h y => ?_, fun ρ S H k e w g h => ?_⟩
  · have := (List.getElem?_eq_some_iff.mp h).1
    rw [len] at this
    exact this
  · obtain ⟨rfl, rfl⟩ := y
    unfold rgDn at h
    rw [List.getElem?_map] at h
    obtain ⟨m, hm, rfl⟩ := Option.map_eq_some_iff.mp h
    have := List.getElem?_eq_some_iff.mp hm
    obtain ⟨hl, rfl⟩ := this
    rw [List.getElem_range, show i + (k : Int) * (-1) = i - (k : Nat) by omega]
    exact ⟨Ext.refl, w, .int _, fun _ _ z => z⟩
  · rw [len] at h
    exact h
theorem enumD_get {xs : List D} {i : Nat} {d : D} (h : (enumD xs)[i]? = some d) : ∃ x, xs[i]? = some x ∧ d = .tup [.int (i : Nat), x] := by
  unfold enumD at h
  rw [List.getElem?_map, List.getElem?_zipIdx] at h
  cases hx : xs[i]? with
  | none => rw [hx] at h; cases h
  | some x =>
    rw [hx] at h
    refine ⟨x, rfl, ?_⟩
    simpa using h.symm
theorem enumD_len (xs : List D) : (enumD xs).length = xs.length := by unfold enumD; simp
theorem enumD_some {xs : List D} {i : Nat} {x : D} (h : xs[i]? = some x) : (enumD xs)[i]? = some (.tup [.int (i : Nat), x]) := by
  unfold enumD
  rw [List.getElem?_map, List.getElem?_zipIdx, h]
  simp
theorem itOk_enL {T : Tbl} {K : PySem.W.Frag} {a : Nat} {xs : List D} {ρ0 : Nat → Addr} {S0 : Sto} {H0 : Hp} (ha : a < S0.length) : ItOk (T := T) (K := K) (IteL K (ρ0 a)) (enumD xs) [(a, xs)] ρ0 S0.length H0 := by
  have rd : ∀ {ρ : Nat → Addr} {S : Sto} {H : Hp}, Ext K ρ0 S0.length H0 ρ S.length H → Wd T K ρ S H → Gd [(a, xs)] S → ∃ vs, SqL K H (ρ0 a) vs ∧ RDs K ρ S.length H xs vs := fun e w g => by
    obtain ⟨vs, q, r⟩ := w.seqAt (g (a, xs) List.mem_cons_self)
    rw [e.ag a ha] at q
    exact ⟨vs, q, r⟩
  refine ⟨fun ρ S H i d e w g h => ?_, fun ρ S H i d v H' e w g h y => ?_, fun ρ S H i e w g h => ?_⟩
  · obtain ⟨vs, q, r⟩ := rd e w g
    obtain ⟨x, hx, rfl⟩ := enumD_get h
    obtain ⟨v, hv, _⟩ := r.get hx
    exact ⟨vs, v, q, hv⟩
  · obtain ⟨vs, q, r⟩ := rd e w g
    obtain ⟨x, hx, rfl⟩ := enumD_get h
    obtain ⟨u, hu, ru⟩ := r.get hx
    obtain ⟨t, z, ob, rfl, hn, od, rfl, f⟩ := y
    have ev := f vs q
    rw [hu] at ev
    cases ev
    have e1 : Ext K ρ S.length H ρ S.length (upd H t (.frz ob (.tup [.int (i : Nat), u]))) := Ext.new hn
    exact ⟨e1, w.new hn, .tup (.inl ⟨ob, upd_same, od⟩) (.cons (.int _) (.cons (ru.ext e1) .nil)), fun p o hp => by rw [upd_ne (ne_of_none hp hn)]; exact hp⟩
  · obtain ⟨vs, q, r⟩ := rd e w g
    exact ⟨vs, q, by rw [← r.length, ← enumD_len]; exact h⟩
theorem itOk_enT {T : Tbl} {K : PySem.W.Frag} {p : Addr} {xs : List D} {vs : List V} {ρ0 : Nat → Addr} {n0 : Nat} {H0 : Hp} (hp : SqN K H0 p vs) (r0 : RDs K ρ0 n0 H0 xs vs) : ItOk (T := T) (K := K) (IteT K p) (enumD xs) [] ρ0 n0 H0 := by
  refine ⟨fun ρ S H i d e w g h => ?_, fun ρ S H i d v H' e w g h y => ?_, fun ρ S H i e w g h => ?_⟩
  · obtain ⟨x, hx, rfl⟩ := enumD_get h
    obtain ⟨v, hv, _⟩ := r0.get hx
    exact ⟨vs, v, (e.tp _ _ hp).t, hv⟩
  · obtain ⟨x, hx, rfl⟩ := enumD_get h
    obtain ⟨u, hu, ru⟩ := r0.get hx
    obtain ⟨t, z, ob, rfl, hn, od, rfl, f⟩ := y
    have ev := f vs (e.tp _ _ hp).t
    rw [hu] at ev
    cases ev
    have e1 : Ext K ρ S.length H ρ S.length (upd H t (.frz ob (.tup [.int (i : Nat), u]))) := Ext.new hn
    exact ⟨e1, w.new hn, .tup (.inl ⟨ob, upd_same, od⟩) (.cons (.int _) (.cons ((ru.ext e).ext e1) .nil)), fun p o hp => by rw [upd_ne (ne_of_none hp hn)]; exact hp⟩
  · exact ⟨vs, (e.tp _ _ hp).t, by rw [← r0.length, ← enumD_len]; exact h⟩
section
variable {X : Cx} {T : Tbl} {c : CallT} {W : WX} {pos : Pos} (hc : CallMono c c) {a b e tg : Expr} {xa xb : MX}
include hc
theorem sd_seq (ha : PE X a (tE T X.K c W xa)) : PI X tg a (tI T X.K c W (.seq xa)) := impI (pi_seq ha) fun ς H R ⟨ρ, σ, S, E, s, h⟩ => by
  simp only [wpI] at h
  refine tE_of hc s h fun x S1 ρ1 H1 v h1 e1 w1 r1 => ?_
  split at h1
  · cases r1 with
    | tup q r => exact .inl ⟨_, rfl, .inr ⟨⟨_, q.t⟩, h1 _ _ _ e1 w1 (itOk_tup q r)⟩⟩
  · cases r1 with
    | klst q r => exact .inl ⟨_, rfl, .inl ⟨⟨_, q.l⟩, h1 _ _ _ e1 w1 (itOk_klst q r)⟩⟩
  · split at h1
    · rename_i ys ey
      cases r1 with
      | ref hl =>
        obtain ⟨vs, q, r⟩ := w1.seqAt ey
        exact .inl ⟨_, rfl, .inl ⟨⟨_, q⟩, h1 _ _ _ e1 w1 (itOk_list hl)⟩⟩
    · exact h1.elim
  · cases r1
    exact .inr ⟨_, rfl, h1 _ _ _ e1 w1 itOk_str⟩
  · exact h1.elim
theorem sd_enum {p tpos : Pos} {elts : List Expr} {kk : Nat} (hg : Gl X "enumerate") (hm : X.mg "enumerate" = none) (ha : PE X a (tE T X.K c W xa)) (na : starEach [a] X.env = [(false, eval a X.env)]) : PI X (.Tuple elts kk tpos) (.Call (.Name "enumerate" p) [a] [] pos) (tI T X.K c W (.enum xa)) := impI (pi_enumA hg hm ha na) fun ς H R ⟨ρ, σ, S, E, s, h⟩ => by
  simp only [wpI] at h
  refine tE_of hc s h fun x S1 ρ1 H1 v h1 e1 w1 r1 => ?_
  split at h1
  · cases r1 with
    | tup q r => exact ⟨_, rfl, .inr ⟨⟨_, q.t⟩, h1 _ _ _ e1 w1 (itOk_enT q r)⟩⟩
  · split at h1
    · rename_i ys ey
      cases r1 with
      | ref hl =>
        obtain ⟨vs, q, r⟩ := w1.seqAt ey
        exact ⟨_, rfl, .inl ⟨⟨_, q⟩, h1 _ _ _ e1 w1 (itOk_enL hl)⟩⟩
    · exact h1.elim
  · exact h1.elim
omit hc in
theorem zipD_get {xs ys : List MP.D} {i : Nat} {d : MP.D} (h : (zipD xs ys)[i]? = some d) : ∃ x y, xs[i]? = some x ∧ ys[i]? = some y ∧ d = .tup [x, y] := by
  unfold zipD at h
  rw [List.getElem?_map] at h
  obtain ⟨⟨x, y⟩, h1, rfl⟩ := Option.map_eq_some_iff.mp h
  rw [List.getElem?_zip_eq_some] at h1
  exact ⟨x, y, h1.1, h1.2, rfl⟩
omit hc in
theorem itOk_zz {T : Tbl} {K : PySem.W.Frag} {p p' : Addr} {xs ys : List MP.D} {vs us : List V} {ρ0 : Nat → Addr} {n0 : Nat} {H0 : Hp} (hp : SqN K H0 p vs) (r0 : RDs K ρ0 n0 H0 xs vs) (hp' : SqN K H0 p' us) (r0' : RDs K ρ0 n0 H0 ys us) : ItOk (T := T) (K := K) (Itzz K p p') (zipD xs ys) [] ρ0 n0 H0 := by
  refine ⟨fun ρ S H i d e w g h => ?_, fun ρ S H i d v H' e w g h y => ?_, fun ρ S H i e w g h => ?_⟩
  · obtain ⟨x, y, hx, hy, rfl⟩ := zipD_get h
    obtain ⟨v, hv, _⟩ := r0.get hx
    obtain ⟨u, hu, _⟩ := r0'.get hy
    exact ⟨vs, us, v, u, (e.tp _ _ hp).t, (e.tp _ _ hp').t, hv, hu⟩
  · obtain ⟨x, y', hx, hy, rfl⟩ := zipD_get h
    obtain ⟨u, hu, ru⟩ := r0.get hx
    obtain ⟨u', hu', ru'⟩ := r0'.get hy
    obtain ⟨t, z, z', ob, rfl, hn, od, rfl, f, f'⟩ := y
    have ev := f vs (e.tp _ _ hp).t
    rw [hu] at ev
    cases ev
    have ev' := f' us (e.tp _ _ hp').t
    rw [hu'] at ev'
    cases ev'
    have e1 : Ext K ρ S.length H ρ S.length (upd H t (.frz ob (.tup [u, u']))) := Ext.new hn
    exact ⟨e1, w.new hn, .tup (.inl ⟨ob, upd_same, od⟩) (.cons ((ru.ext e).ext e1) (.cons ((ru'.ext e).ext e1) .nil)), fun p o hp => by rw [upd_ne (ne_of_none hp hn)]; exact hp⟩
  · refine ⟨vs, us, (e.tp _ _ hp).t, (e.tp _ _ hp').t, ?_⟩
    unfold zipD at h
    rw [List.length_map, List.length_zip] at h
    rw [← r0.length, ← r0'.length]
    omega
theorem sd_zip {p tpos : Pos} {elts : List Expr} {kk : Nat} (hg : Gl X "zip") (hm : X.mg "zip" = none) (ha : PE X a (tE T X.K c W xa)) (hb : PE X b (tE T X.K c W xb)) (na : starEach [a, b] X.env = (false, eval a X.env) :: starEach [b] X.env) (nb : starEach [b] X.env = (false, eval b X.env) :: starEach [] X.env) :
    PI X (.Tuple elts kk tpos) (.Call (.Name "zip" p) [a, b] [] pos) (tI T X.K c W (.zip xa xb)) := impI (pi_zz hg hm (pa_cons ha (pa_cons hb pa_nil nb) na) na (by rw [nb]; rfl)) fun ς H R ⟨ρ, σ, S, E, s, h⟩ => by
  simp only [wpI] at h
  refine tE_of hc s h fun x S1 ρ1 H1 v h1 e1 w1 r1 => tE_of hc (s.next e1 w1) h1 fun y S2 ρ2 H2 u h2 e2 w2 r2 => ?_
  split at h2
  · have r1' := r1.ext e2
    cases r1' with
    | tup q1 s1 =>
      cases r2 with
      | tup q2 s2 => exact ⟨_, _, _, _, rfl, q1.t, q2.t, h2 _ _ _ (e1.trans e2) w2 (itOk_zz q1 s1 q2 s2)⟩
  · exact h2.elim
theorem sd_rng1 {p : Pos} (hg : Gl X "range") (hm : X.mg "range" = none) (ha : PE X a (tE T X.K c W xa)) (na : starEach [a] X.env = [(false, eval a X.env)]) : PI X tg (.Call (.Name "range" p) [a] [] pos) (tI T X.K c W (.rng (.cons xa .nil))) := impI (pi_range1 hg hm (pa_cons ha pa_nil na) na) fun ς H R ⟨ρ, σ, S, E, s, h⟩ => by
  simp only [wpI, wpEs] at h
  refine tE_of hc s h fun x S1 ρ1 H1 v h1 e1 w1 r1 => ?_
  unfold wpRg at h1
  split at h1
  · rename_i j hj
    cases hj
    cases r1
    obtain ⟨⟨_, ⟨b3, b4⟩⟩, h1⟩ := h1
    have q := h1 _ _ _ e1 w1 itOk_rg
    rw [Int.sub_zero] at q
    exact ⟨j, rfl, b3, b4, q⟩
  · rename_i hj; cases hj
  · exact h1.elim
theorem sd_rng2 {p : Pos} (hg : Gl X "range") (hm : X.mg "range" = none) (ha : PE X a (tE T X.K c W xa)) (hb : PE X b (tE T X.K c W xb)) (na : starEach [a, b] X.env = [(false, eval a X.env), (false, eval b X.env)]) (nb : starEach [b] X.env = [(false, eval b X.env)]) : PI X tg (.Call (.Name "range" p) [a, b] [] pos) (tI T X.K c W (.rng (.cons xa (.cons xb .nil)))) := impI (pi_range2 hg hm (pa_cons ha (pa_cons hb pa_nil nb) (by rw [na, nb])) na nb) fun ς H R ⟨ρ, σ, S, E, s, h⟩ => by
  simp only [wpI, wpEs] at h
  refine tE_of hc s h fun x S1 ρ1 H1 v h1 e1 w1 r1 => tE_of hc (s.next e1 w1) h1 fun y S2 ρ2 H2 u h2 e2 w2 r2 => ?_
  unfold wpRg at h2
  split at h2
  · rename_i hj; cases hj
  · rename_i i j hj
    cases hj
    cases r1
    cases r2
    obtain ⟨⟨⟨b1, b2⟩, ⟨b3, b4⟩⟩, h2⟩ := h2
    exact ⟨i, j, rfl, ⟨b1, b2, b3, b4⟩, h2 _ _ _ (e1.trans e2) w2 itOk_rg⟩
  · exact h2.elim
theorem sd_rngD {d : Expr} {xd : MX} {p : Pos} (hg : Gl X "range") (hm : X.mg "range" = none) (ha : PE X a (tE T X.K c W xa)) (hb : PE X b (tE T X.K c W xb)) (hd : PE X d (tE T X.K c W xd)) (na : starEach [a, b, d] X.env = (false, eval a X.env) :: starEach [b, d] X.env) (nb : starEach [b, d] X.env = (false, eval b X.env) :: starEach [d] X.env) (nd : starEach [d] X.env = (false, eval d X.env) :: starEach [] X.env) : PI X tg (.Call (.Name "range" p) [a, b, d] [] pos) (tI T X.K c W (.rngD (.cons xa (.cons xb (.cons xd .nil))))) := impI (pi_range3 hg hm (pa_cons ha (pa_cons hb (pa_cons hd pa_nil nd) nb) na) na (by rw [nb, nd]; rfl)) fun ς H R ⟨ρ, σ, S, E, s, h⟩ => by
  simp only [wpI, wpEs] at h
  refine tE_of hc s h fun x S1 ρ1 H1 v h1 e1 w1 r1 => tE_of hc (s.next e1 w1) h1 fun y S2 ρ2 H2 u h2 e2 w2 r2 => tE_of hc (s.next (e1.trans e2) w2) h2 fun z S3 ρ3 H3 t h3 e3 w3 r3 => ?_
  split at h3
  · rename_i i j k hj
    cases hj
    cases r1
    cases r2
    cases r3
    obtain ⟨⟨rfl, ⟨b1, b2⟩, ⟨b3, b4⟩⟩, h3⟩ := h3
    exact ⟨i, j, -1, _, rfl, RgC.neg b1 b2 b3 b4, h3 _ _ _ ((e1.trans e2).trans e3) w3 itOk_rgD⟩
  · exact h3.elim
end

/-! ### comprehensions -/
section
variable {K : PySem.W.Frag} {T : Tbl} {c : CallT}
theorem lc_ok {gs : List (Nat × List D)} {J : It} {xs : List D} {t : Tg} {ifs : MXs} {elt : MX} {vs : List Nat} {σ : Env} {ς : L2.St} {ρ1 : Nat → Addr} {S1 : Sto} {H1 : Hp} {P : List D → Sto → Prop} {Qd : Hp → Prop} {Dd : Addr} (hc : CallMono c c)
    (hD : H1 Dd = none) (hi : ItOk (T := T) (K := K) J xs gs ρ1 S1.length H1) (w1 : Wd T K ρ1 S1 H1) (er : ER K ρ1 S1.length H1 σ ς) (hsl : ∀ i ∈ slots t, i ∈ vs) (hz : xs.length ≤ sizeLine)
    (h : wpComp gs (fun x S2 K => match asg t x (wipeE σ vs) with
        | some σ2 => wpIfs c ifs (fun _ _ => False) σ2 S2 fun k S3 => if k = true then wpE c elt (fun _ _ => False) σ2 S3 fun y S4 => K (some y) S4 else K none S3
        | none => False) xs S1 P)
    (q : ∀ ds S' ρ' H' us, P ds S' → Ext K ρ1 S1.length H1 ρ' S'.length H' → Wd T K ρ' S' H' → H' Dd = some (.lst us) → (∀ a, a < S'.length → ρ' a ≠ Dd) → RDs K ρ' S'.length H' ds us → Qd H') :
    ∃ W : Nat → Nat → Hp → Prop, (∃ m, W 0 m (upd H1 Dd (.lst []))) ∧ ∀ i m H, W i m H →
      (J.stop i H ∧ Qd H) ∨ (J.go i H ∧ ∃ Nx : Hp → Prop, (∀ H', Nx H' → ∃ m', m' < m ∧ W (i + 1) m' H') ∧ ∀ x H', J.yld i H x H' → gT K t x (wipe ς vs) H' fun σ2 H2 => wipe σ2 vs = wipe ς vs ∧ tFs T K c (fun _ _ _ _ => False) ifs σ2 H2 fun b H3 =>
        if b = true then tE T K c (fun _ _ _ _ => False) elt σ2 H3 fun y H4 => ∃ acc, H4 Dd = some (.lst acc) ∧ acc.length < sizeLine ∧ Nx (upd H4 Dd (.lst (acc ++ [y]))) else Nx H3) := by
  let body : D → Sto → (Option D → Sto → Prop) → Prop := fun x S2 K => match asg t x (wipeE σ vs) with
        | some σ2 => wpIfs c ifs (fun _ _ => False) σ2 S2 fun k S3 => if k = true then wpE c elt (fun _ _ => False) σ2 S3 fun y S4 => K (some y) S4 else K none S3
        | none => False
  -- the state at turn i
  let Inv : Nat → Hp → Prop := fun i H => ∃ ρ' S' ds us, Ext K ρ1 S1.length H1 ρ' S'.length H ∧ Wd T K ρ' S' H ∧ H Dd = some (.lst us) ∧ (∀ a, a < S'.length → ρ' a ≠ Dd) ∧ RDs K ρ' S'.length H ds us ∧ ds.length ≤ i ∧ wpComp gs body (xs.drop i) S' fun ys S2 => P (ds ++ ys) S2
  refine ⟨fun i m H => m = xs.length - i ∧ Inv i H, ⟨_, rfl, ρ1, S1, [], [], Ext.new hD, w1.new hD, upd_same, w1.free hD, .nil, Nat.le_refl _, h⟩, ?_⟩
  rintro i m H ⟨rfl, ρ', S', ds, us, ex, w, hd, fr, rds, hl, hw⟩
  cases hx : xs[i]? with
  | none =>
    have hi' := List.getElem?_eq_none_iff.mp hx
    rw [List.drop_eq_nil_of_le hi'] at hw
    simp only [wpComp, List.append_nil] at hw
    exact .inl ⟨hi.stop ρ' S' H i ex w hw.1 hi', q ds S' ρ' H us hw.2 ex w hd fr rds⟩
  | some d =>
    have hlt := (List.getElem?_eq_some_iff.mp hx).1
    have hdr : xs.drop i = d :: xs.drop (i + 1) := by
      rw [List.drop_eq_getElem_cons hlt]
      congr 1
      exact (List.getElem?_eq_some_iff.mp hx).2
    rw [hdr] at hw
    simp only [wpComp] at hw
    obtain ⟨gd, hb⟩ := hw
    refine .inr ⟨hi.go ρ' S' H i d ex w gd hx, Inv (i + 1), fun H' z => ⟨_, by omega, rfl, z⟩, fun v H' y => ?_⟩
    obtain ⟨e1, w', rv, kp⟩ := hi.yld ρ' S' H i d v H' ex w gd hx y
    have ex' := ex.trans e1
    have hd' : H' Dd = some (.lst us) := kp _ _ hd
    simp only [body] at hb
    cases ha : asg t d (wipeE σ vs) with
    | none => rw [ha] at hb; exact hb.elim
    | some σ2 =>
      rw [ha] at hb
      refine asg_ok t ha rv ((er.ext ex').wipe vs) fun ς2 er2 kp2 => ⟨wipe_keeps kp2 hsl, ?_⟩
      have s0 : St0 T K (fun _ _ _ _ => False) ρ' σ2 S' (fun _ _ => False) ς2 H' := ⟨w', er2, fun _ _ z => z.elim⟩
      refine tFs_of hc s0 hb fun k S3 ρ3 H3 h3 e3 w3 => ?_
      have hd3 : H3 Dd = some (.lst us) := e3.fr _ _ hd' fr
      have fr3 : ∀ a, a < S3.length → ρ3 a ≠ Dd := fun a la => by
        by_cases hh : a < S'.length
        · rw [e3.ag a hh]; exact fr a hh
        · intro z
          have := e3.nw a (Nat.le_of_not_lt hh) la
          rw [z, hd'] at this
          cases this
      cases k with
      | false =>
        exact ⟨ρ3, S3, ds, us, ex'.trans e3, w3, hd3, fr3, (rds.ext e1).ext e3, by omega, h3⟩
      | true =>
        refine tE_of hc (s0.next e3 w3) h3 fun y S4 ρ4 H4 u h4 e4 w4 r4 => ?_
        have hd4 : H4 Dd = some (.lst us) := e4.fr _ _ hd3 fr3
        have fr4 : ∀ a, a < S4.length → ρ4 a ≠ Dd := fun a la => by
          by_cases hh : a < S3.length
          · rw [e4.ag a hh]; exact fr3 a hh
          · intro z
            have := e4.nw a (Nat.le_of_not_lt hh) la
            rw [z, hd3] at this
            cases this
        have rds4 := ((rds.ext e1).ext e3).ext e4
        refine ⟨us, hd4, by rw [← rds4.length]; omega, ρ4, S4, ds ++ [y], us ++ [u], ((ex'.trans e3).trans e4).untr hD hd4 trivial, w4.untr hd4 trivial fr4, upd_same, fr4, (rds4.append (.cons r4 .nil)).untr hd4 trivial, by simp; omega, ?_⟩
        simpa using h4
variable {W : WX}
theorem lc_imp (hc : CallMono c c) {vs : List Nat} {t : Tg} {it : MI} {xf : MXs} {xe : MX} (hsl : ∀ i ∈ slots t, i ∈ vs) : ∀ ς H Q, tE T K c W (.comp vs t it xf xe) ς H Q → tLc (tI T K c W it) (gT K t) (tFs T K c (fun _ _ _ _ => False) xf) (tE T K c (fun _ _ _ _ => False) xe) vs ς H Q := fun ς H Q ⟨ρ, σ, S, E, s, h⟩ => by
  simp only [wpE] at h
  refine ⟨ρ, σ, S, E, s, wpI_mono hc it h (fun xs gs S1 h1 ρ1 H1 J e1 w1 io => ?_) fun _ _ z => z⟩
  intro Dd hD
  refine lc_ok hc hD io w1 (s.er.ext e1) hsl h1.1 h1.2 fun ds S' ρ' H' us hP ex w hd fr rds => ?_
  have hP' : Pst T K ρ S.length H Q (.ref S'.length) (S' ++ [O.lst ds]) := hP
  have wf := w.adopt hd fr rds
  have ef := (ex.adopt (p := Dd) hD)
  have e0 : Ext K ρ1 S1.length H1 (nxt ρ' S'.length Dd) (S' ++ [O.lst ds]).length H' := by
    rw [List.length_append, List.length_singleton]
    exact ef
  have r0 : RD K (nxt ρ' S'.length Dd) (S' ++ [O.lst ds]).length H' (.ref S'.length) (.ref (nxt ρ' S'.length Dd S'.length)) := .ref (by simp)
  rw [nxt_self] at r0
  exact hP' _ _ _ (e1.trans e0) wf r0
/-! ### a comprehension over a dict's keys -/
theorem rd_key {ρ : Nat → Addr} {n : Nat} {H : Hp} (k : Key) : RD K ρ n H (keyD k) (kV k) := by
  cases k with
  | inl i => exact .int i
  | inr x => exact .str x
theorem itOk_keys {T : Tbl} {d : Addr} {o : Obj} {kvs : List (Key × D)} {vs : List (Key × V)} {ρ0 : Nat → Addr} {n0 : Nat} {H0 : Hp} (hd : H0 d = some (.frz o (.dK vs))) (ke : kvs.map Prod.fst = vs.map Prod.fst) : ItOk (T := T) (K := K) (Itk d o vs) (kvs.map fun kv => keyD kv.1) [] ρ0 n0 H0 := by
  have hl : kvs.length = vs.length := by have := congrArg List.length ke; simpa using this
  refine ⟨fun ρ S H i x e w g h => ⟨e.fk _ _ _ hd, ?_⟩, fun ρ S H i x v H' e w g h y => ?_, fun ρ S H i e w g h => ⟨e.fk _ _ _ hd, ?_⟩⟩
  · have := (List.getElem?_eq_some_iff.mp h).1
    rw [List.length_map] at this
    omega
  · obtain ⟨rfl, k, u, hu, rfl⟩ := y
    rw [List.getElem?_map] at h
    obtain ⟨kv, h1, rfl⟩ := Option.map_eq_some_iff.mp h
    have h2 : (kvs.map Prod.fst)[i]? = some kv.1 := by rw [List.getElem?_map, h1]; rfl
    rw [ke, List.getElem?_map, hu] at h2
    have h3 : k = kv.1 := Option.some.inj h2
    rw [← h3]
    exact ⟨Ext.refl, w, rd_key k, fun _ _ z => z⟩
  · rw [List.length_map] at h
    omega
theorem Ext.unlock {ρ ρ' : Nat → Addr} {n n' : Nat} {H H' : Hp} {d : Addr} {od : Obj} {vs : List (Key × V)} {a : Nat} (hq : H d = some (.dK vs)) (ha : a < n) (hd : ρ a = d) (e : Ext K ρ n (upd H d (.frz od (.dK vs))) ρ' n' H') : Ext K ρ n H ρ' n' (upd H' d (.dK vs)) := by
  have hz : H' d = some (.frz od (.dK vs)) := e.fk _ _ _ upd_same
  have ne : ∀ {p : Addr} {o : HO}, H p = some o → (∀ a, a < n → ρ a ≠ p) → p ≠ d := fun h i z => i a ha (hd.trans z.symm)
  refine ⟨e.le, e.ag, fun p xs h => wr_T hz trivial p xs (e.tp p xs (wr_T hq trivial p xs h)), fun p xs h => wr_F hz trivial p xs (e.fz p xs (wr_F hq trivial p xs h)), fun p o h i => ?_, fun x h1 h2 => upd_th _ (e.nw x h1 h2), fun p h => upd_th _ (e.th p (upd_th _ h)), fun p q h => wr_O hz trivial p q (e.ow p q (wr_O hq trivial p q h)), fun p o vs' h => ?_, fun p fs h => wr_X hz trivial p fs (e.xd p fs (wr_X hq trivial p fs h)), fun p o φ h => ?_⟩
  · have hp := ne h i
    rw [upd_ne hp]
    exact e.fr p o (by rw [upd_ne hp]; exact h) i
  · have hp : p ≠ d := by
      rintro rfl
      rw [hq] at h
      cases h
    rw [upd_ne hp]
    exact e.fk p o vs' (by rw [upd_ne hp]; exact h)
  · have hp : p ≠ d := by
      rintro rfl
      rw [hq] at h
      cases h
    rw [upd_ne hp]
    exact e.fe p o φ (by rw [upd_ne hp]; exact h)
theorem Wd.unlock {T : Tbl} {ρ : Nat → Addr} {S : Sto} {H : Hp} (w : Wd T K ρ S H) {a : Nat} {kvs : List (Key × D)} {od : Obj} {vs : List (Key × V)} (h : S[a]? = some (.dk true kvs)) (hz : H (ρ a) = some (.frz od (.dK vs))) : Wd T K ρ (S.set a (.dk false kvs)) (upd H (ρ a) (.dK vs)) := by
  have la := w.lt h
  refine ⟨fun b o hb => ?_, fun b c hb hc e => ?_⟩
  · rw [List.length_set]
    by_cases hab : b = a
    · subst hab
      rw [List.getElem?_set_self la] at hb
      cases hb
      obtain ⟨o, us, q, ke, rd⟩ := w.ob _ _ h
      rw [hz] at q
      cases q
      exact ⟨vs, upd_same, ke, rd.untr hz trivial⟩
    · rw [List.getElem?_set_ne (Ne.symm hab)] at hb
      have lb := w.lt hb
      exact (w.ob b o hb).to (fun r => r.untr hz trivial) (wr_O hz trivial) (upd_ne fun z => hab (w.inj b a lb la z))
  · rw [List.length_set] at hb hc
    exact w.inj b c hb hc e
theorem compD_imp (hc : CallMono c c) {vs : List Nat} {t : Tg} {i : Nat} {xf : MXs} {xe : MX} (hsl : ∀ i ∈ slots t, i ∈ vs) : ∀ ς H Q, tE T K c W (.compD vs t i xf xe) ς H Q → tLockE (tLc (iKeys (tVar i)) (gT K t) (tFs T K c (fun _ _ _ _ => False) xf) (tE T K c (fun _ _ _ _ => False) xe) vs) ς H Q := fun ς H Q ⟨ρ, σ, S, E, s, h⟩ => by
  simp only [wpE] at h
  split at h
  · rename_i a hσ
    split at h
    · rename_i kvs hS
      obtain ⟨v, hv, r⟩ := s.er.at_ i _ hσ
      cases r with
      | ref hl =>
        obtain ⟨vs', hq, ke, rd⟩ := s.wd.ob a _ hS
        refine ⟨ρ a, .dK vs', hq, trivial, fun od => ?_⟩
        have e1 : Ext K ρ S.length H ρ (S.set a (.dk true kvs)).length (upd H (ρ a) (.frz od (.dK vs'))) := Ext.setO hl hq trivial
        have w1 : Wd T K ρ (S.set a (.dk true kvs)) (upd H (ρ a) (.frz od (.dK vs'))) := s.wd.setO hS hq trivial ⟨od, vs', upd_same, ke, rd.ext (Ext.setAt hl hq trivial)⟩
        refine ⟨.ref (ρ a), hv, ρ a, od, rfl, .inl ⟨vs', upd_same, fun Dd hD => ?_⟩⟩
        refine lc_ok (J := Itk (ρ a) od vs') hc hD (itOk_keys upd_same ke) w1 (s.er.ext e1) hsl (by rw [List.length_map]; exact h.1) h.2 fun ds S' ρ' H' us hP ex w' hd fr rds => ?_
        obtain ⟨hk, hQ⟩ := hP
        have hz : H' (ρ a) = some (.frz od (.dK vs')) := ex.fk _ _ _ upd_same
        have la' : a < (S.set a (.dk true kvs)).length := by rw [List.length_set]; exact hl
        have ea : ρ' a = ρ a := ex.ag a la'
        refine ⟨hz, ?_⟩
        have hz' : H' (ρ' a) = some (.frz od (.dK vs')) := by rw [ea]; exact hz
        have w2 := w'.unlock hk hz'
        have nD : Dd ≠ ρ' a := fun z => fr a (w'.lt hk) z.symm
        have hd2 : upd H' (ρ' a) (.dK vs') Dd = some (.lst us) := by rw [upd_ne nD]; exact hd
        have hl2 : (S'.set a (.dk false kvs)).length = S'.length := List.length_set ..
        have w3 := w2.adopt (xs := ds) hd2 (fun b hb => fr b (by rw [hl2] at hb; exact hb)) (by rw [hl2]; exact rds.untr hz' trivial)
        have ex' : Ext K ρ S.length (upd H (ρ a) (.frz od (.dK vs'))) ρ' S'.length H' := by rw [List.length_set] at ex; exact ex
        have e3 := (Ext.unlock hq hl rfl ex').adopt (p := Dd) (upd_th _ hD)
        have e4 : Ext K ρ S.length H (nxt ρ' (S'.set a (.dk false kvs)).length Dd) (S'.set a (.dk false kvs) ++ [O.lst ds]).length (upd H' (ρ' a) (.dK vs')) := by
          rw [List.length_append, List.length_singleton, hl2, ea]
          exact e3
        have r0 : RD K (nxt ρ' (S'.set a (.dk false kvs)).length Dd) (S'.set a (.dk false kvs) ++ [O.lst ds]).length (upd H' (ρ' a) (.dK vs')) (.ref S'.length) (.ref (nxt ρ' (S'.set a (.dk false kvs)).length Dd S'.length)) := .ref (by simp)
        rw [hl2, nxt_self] at r0
        rw [hl2] at e4 w3
        rw [← ea]
        exact hQ _ _ _ e4 w3 r0
    · exact h.elim
  · exact h.elim
theorem itOk_nd {T : Tbl} {wo : World} {d : Addr} {o : Obj} {kvs : List (NestedKey × D)} {xs : List (NestedKey × Addr × V)} {ρ0 : Nat → Addr} {n0 : Nat} {H0 : Hp} (hd : H0 d = some (.frz o (.ext (NdP wo d xs)))) (ke : kvs.map Prod.fst = xs.map Prod.fst) (rk : RDs K ρ0 n0 H0 (kvs.map fun kv => nkD kv.1) (xs.map fun x => V.ref x.2.1)) : ItOk (T := T) (K := K) (Itnd wo d o xs) (kvs.map fun kv => nkD kv.1) [] ρ0 n0 H0 := by
  have hl : kvs.length = xs.length := by have := congrArg List.length ke; simpa using this
  refine ⟨fun ρ S H i x e w g h => ⟨e.fe _ _ _ hd, ?_⟩, fun ρ S H i x v H' e w g h y => ?_, fun ρ S H i e w g h => ⟨e.fe _ _ _ hd, ?_⟩⟩
  · have := (List.getElem?_eq_some_iff.mp h).1
    rw [List.length_map] at this
    omega
  · obtain ⟨rfl, z, hz, rfl⟩ := y
    obtain ⟨v, hv, r⟩ := (rk.ext e).get h
    rw [List.getElem?_map, hz] at hv
    cases hv
    exact ⟨Ext.refl, w, r, fun _ _ z => z⟩
  · rw [List.length_map] at h
    omega
theorem Ext.unlockN {ρ ρ' : Nat → Addr} {n n' : Nat} {H H' : Hp} {d : Addr} {od : Obj} {φ : Heap → Prop} {a : Nat} (hq : H d = some (.ext φ)) (ha : a < n) (hd : ρ a = d) (e : Ext K ρ n (upd H d (.frz od (.ext φ))) ρ' n' H') : Ext K ρ n H ρ' n' (upd H' d (.ext φ)) := by
  have hz : H' d = some (.frz od (.ext φ)) := e.fe _ _ _ upd_same
  have ne : ∀ {p : Addr} {o : HO}, H p = some o → (∀ a, a < n → ρ a ≠ p) → p ≠ d := fun h i z => i a ha (hd.trans z.symm)
  refine ⟨e.le, e.ag, fun p xs h => wr_T hz trivial p xs (e.tp p xs (wr_T hq trivial p xs h)), fun p xs h => wr_F hz trivial p xs (e.fz p xs (wr_F hq trivial p xs h)), fun p o h i => ?_, fun x h1 h2 => upd_th _ (e.nw x h1 h2), fun p h => upd_th _ (e.th p (upd_th _ h)), fun p q h => wr_O hz trivial p q (e.ow p q (wr_O hq trivial p q h)), fun p o vs' h => ?_, fun p fs h => wr_X hz trivial p fs (e.xd p fs (wr_X hq trivial p fs h)), fun p o φ' h => ?_⟩
  · have hp := ne h i
    rw [upd_ne hp]
    exact e.fr p o (by rw [upd_ne hp]; exact h) i
  · have hp : p ≠ d := by
      rintro rfl
      rw [hq] at h
      cases h
    rw [upd_ne hp]
    exact e.fk p o vs' (by rw [upd_ne hp]; exact h)
  · have hp : p ≠ d := by
      rintro rfl
      rw [hq] at h
      cases h
    rw [upd_ne hp]
    exact e.fe p o φ' (by rw [upd_ne hp]; exact h)
theorem Wd.unlockN {T : Tbl} {ρ : Nat → Addr} {S : Sto} {H : Hp} (w : Wd T K ρ S H) {a : Nat} {kvs : List (NestedKey × D)} {od : Obj} {φ : Heap → Prop} (h : S[a]? = some (.nd true kvs)) (hz : H (ρ a) = some (.frz od (.ext φ))) : Wd T K ρ (S.set a (.nd false kvs)) (upd H (ρ a) (.ext φ)) := by
  have la := w.lt h
  refine ⟨fun b o hb => ?_, fun b c hb hc e => ?_⟩
  · rw [List.length_set]
    by_cases hab : b = a
    · subst hab
      rw [List.getElem?_set_self la] at hb
      cases hb
      obtain ⟨o, us, q, ke, rk, rd, z⟩ := w.ob _ _ h
      have e1 : HO.frz od (.ext φ) = HO.frz o (.ext (NdP T.w (ρ b) us)) := Option.some.inj (hz.symm.trans q)
      have e2 : φ = NdP T.w (ρ b) us := by injection e1 with _ e1; injection e1
      refine ⟨us, by rw [upd_same, e2], ke, rk.untr hz trivial, rd.untr hz trivial, z⟩
    · rw [List.getElem?_set_ne (Ne.symm hab)] at hb
      have lb := w.lt hb
      exact (w.ob b o hb).to (fun r => r.untr hz trivial) (wr_O hz trivial) (upd_ne fun z => hab (w.inj b a lb la z))
  · rw [List.length_set] at hb hc
    exact w.inj b c hb hc e
theorem compN_imp (hc : CallMono c c) {vs : List Nat} {t : Tg} {i : Nat} {xf : MXs} {xe : MX} (hsl : ∀ i ∈ slots t, i ∈ vs) : ∀ ς H Q, tE T K c W (.compN vs t i xf xe) ς H Q → tLockE (tLc (iKeysN T.w (tVar i)) (gT K t) (tFs T K c (fun _ _ _ _ => False) xf) (tE T K c (fun _ _ _ _ => False) xe) vs) ς H Q := fun ς H Q ⟨ρ, σ, S, E, s, h⟩ => by
  simp only [wpE] at h
  split at h
  · rename_i a hσ
    split at h
    · rename_i kvs hS
      obtain ⟨v, hv, r⟩ := s.er.at_ i _ hσ
      cases r with
      | ref hl =>
        obtain ⟨vs', hq, ke, rk, rd, zz⟩ := s.wd.ob a _ hS
        refine ⟨ρ a, .ext (NdP T.w (ρ a) vs'), hq, trivial, fun od => ?_⟩
        have e1 : Ext K ρ S.length H ρ (S.set a (.nd true kvs)).length (upd H (ρ a) (.frz od (.ext (NdP T.w (ρ a) vs')))) := Ext.setO hl hq trivial
        have w1 : Wd T K ρ (S.set a (.nd true kvs)) (upd H (ρ a) (.frz od (.ext (NdP T.w (ρ a) vs')))) := s.wd.setO hS hq trivial ⟨od, vs', upd_same, ke, rk.ext (Ext.setAt hl hq trivial), rd.ext (Ext.setAt hl hq trivial), zz⟩
        refine ⟨.ref (ρ a), hv, ρ a, od, vs', rfl, upd_same, fun Dd hD => ?_⟩
        refine lc_ok (J := Itnd T.w (ρ a) od vs') hc hD (itOk_nd upd_same ke (rk.ext e1)) w1 (s.er.ext e1) hsl (by rw [List.length_map]; exact h.1) h.2 fun ds S' ρ' H' us hP ex w' hd fr rds => ?_
        obtain ⟨hk, hQ⟩ := hP
        have hz : H' (ρ a) = some (.frz od (.ext (NdP T.w (ρ a) vs'))) := ex.fe _ _ _ upd_same
        have la' : a < (S.set a (.nd true kvs)).length := by rw [List.length_set]; exact hl
        have ea : ρ' a = ρ a := ex.ag a la'
        refine ⟨hz, ?_⟩
        have hz' : H' (ρ' a) = some (.frz od (.ext (NdP T.w (ρ a) vs'))) := by rw [ea]; exact hz
        have w2 := w'.unlockN hk hz'
        have nD : Dd ≠ ρ' a := fun z => fr a (w'.lt hk) z.symm
        have hd2 : upd H' (ρ' a) (.ext (NdP T.w (ρ a) vs')) Dd = some (.lst us) := by rw [upd_ne nD]; exact hd
        have hl2 : (S'.set a (.nd false kvs)).length = S'.length := List.length_set ..
        have w3 := w2.adopt (xs := ds) hd2 (fun b hb => fr b (by rw [hl2] at hb; exact hb)) (by rw [hl2]; exact rds.untr hz' trivial)
        have ex' : Ext K ρ S.length (upd H (ρ a) (.frz od (.ext (NdP T.w (ρ a) vs')))) ρ' S'.length H' := by rw [List.length_set] at ex; exact ex
        have e3 := (Ext.unlockN hq hl rfl ex').adopt (p := Dd) (upd_th _ hD)
        have e4 : Ext K ρ S.length H (nxt ρ' (S'.set a (.nd false kvs)).length Dd) (S'.set a (.nd false kvs) ++ [O.lst ds]).length (upd H' (ρ' a) (.ext (NdP T.w (ρ a) vs'))) := by
          rw [List.length_append, List.length_singleton, hl2, ea]
          exact e3
        have r0 : RD K (nxt ρ' (S'.set a (.nd false kvs)).length Dd) (S'.set a (.nd false kvs) ++ [O.lst ds]).length (upd H' (ρ' a) (.ext (NdP T.w (ρ a) vs'))) (.ref S'.length) (.ref (nxt ρ' (S'.set a (.nd false kvs)).length Dd S'.length)) := .ref (by simp)
        rw [hl2, nxt_self] at r0
        rw [hl2] at e4 w3
        have qq := hQ _ _ _ e4 w3 r0
        rw [ea] at qq
        exact qq
    · exact h.elim
  · exact h.elim
end
end MP
/-! MPStm: statements. -/
namespace MP
open PySem PySem.Spec PyProof.Rows L2

section
variable (T : Tbl) (K : PySem.W.Frag) (W : WX)
structure EndR (D : MP.Ends) (D' : L2.Ends) (ρ : Nat → Addr) (n : Nat) (H : Hp) : Prop where
  nx : ∀ σ' S', D.nx σ' S' → ∀ ρ' ς' H', Ext K ρ n H ρ' S'.length H' → Wd T K ρ' S' H' → ER K ρ' S'.length H' σ' ς' → D'.nx ς' H'
  rt : ∀ d S', D.rt d S' → ∀ ρ' H' v, Ext K ρ n H ρ' S'.length H' → Wd T K ρ' S' H' → RD K ρ' S'.length H' d v → D'.rt v H'
  bk : ∀ σ' S', D.bk σ' S' → ∀ ρ' ς' H', Ext K ρ n H ρ' S'.length H' → Wd T K ρ' S' H' → ER K ρ' S'.length H' σ' ς' → D'.bk ς' H'
  ct : ∀ σ' S', D.ct σ' S' → ∀ ρ' ς' H', Ext K ρ n H ρ' S'.length H' → Wd T K ρ' S' H' → ER K ρ' S'.length H' σ' ς' → D'.ct ς' H'
  ex : ∀ x σ' S', D.ex x σ' S' → ∀ ρ' ς' H' cl d, Ext K ρ n H ρ' S'.length H' → Wd T K ρ' S' H' → ER K ρ' S'.length H' σ' ς' → RX T K ρ' S'.length H' x cl d → W cl d ς' H'
structure StS (D : MP.Ends) (D' : L2.Ends) (ρ : Nat → Addr) (σ : Env) (S : Sto) (ς : L2.St) (H : Hp) : Prop where
  wd : Wd T K ρ S H
  er : ER K ρ S.length H σ ς
  en : EndR T K W D D' ρ S.length H
variable (c : CallT)
def tS (s : MS) : TS := fun D' ς H => ∃ ρ σ S D, StS T K W D D' ρ σ S ς H ∧ wpS c s D σ S
def tSs (ss : MSs) : TS := fun D' ς H => ∃ ρ σ S D, StS T K W D D' ρ σ S ς H ∧ wpSs c ss D σ S
end
section
variable {T : Tbl} {K : PySem.W.Frag} {W : WX} {D : MP.Ends} {D' : L2.Ends} {ρ ρ1 : Nat → Addr} {n n1 : Nat} {σ : Env} {S S1 : Sto} {ς : L2.St} {H H1 : Hp}
theorem EndR.ext (r : EndR T K W D D' ρ n H) (e : Ext K ρ n H ρ1 n1 H1) : EndR T K W D D' ρ1 n1 H1 :=
  ⟨fun σ' S' h ρ' ς' H' e' w r' => r.nx σ' S' h ρ' ς' H' (e.trans e') w r', fun d S' h ρ' H' v e' w r' => r.rt d S' h ρ' H' v (e.trans e') w r', fun σ' S' h ρ' ς' H' e' w r' => r.bk σ' S' h ρ' ς' H' (e.trans e') w r',
    fun σ' S' h ρ' ς' H' e' w r' => r.ct σ' S' h ρ' ς' H' (e.trans e') w r', fun x σ' S' h ρ' ς' H' cl d e' w r' q => r.ex x σ' S' h ρ' ς' H' cl d (e.trans e') w r' q⟩
theorem StS.st (s : StS T K W D D' ρ σ S ς H) : St0 T K W ρ σ S (fun x S' => D.ex x σ S') ς H := ⟨s.wd, s.er, fun x S' h ρ' H' cl d e w q => s.en.ex x σ S' h ρ' ς H' cl d e w (s.er.ext e) q⟩
theorem StS.next (s : StS T K W D D' ρ σ S ς H) (e : Ext K ρ S.length H ρ1 S1.length H1) (w : Wd T K ρ1 S1 H1) : StS T K W D D' ρ1 σ S1 ς H1 := ⟨w, s.er.ext e, s.en.ext e⟩
theorem StS.nx (s : StS T K W D D' ρ σ S ς H) (h : D.nx σ S) : D'.nx ς H := s.en.nx σ S h ρ ς H Ext.refl s.wd s.er
variable {c : CallT} (hc : CallMono c c)
include hc
/-- behind a block, by other ends -/
theorem tSs_of {ss : MSs} {D1 : MP.Ends} {D1' : L2.Ends} (s : StS T K W D1 D1' ρ σ S ς H) (h : wpSs c ss D σ S) (m : EndsLe D D1) : tSs T K W c ss D1' ς H := ⟨ρ, σ, S, D1, s, wpSs_mono hc ss h m⟩
end

theorem wpSet_inv {o i v : D} {S : Sto} {Q : Sto → Prop} (h : wpSet o i v S Q) : (∃ (a : Nat) (k : Int) (xs : List D) (j : Nat), o = .ref a ∧ i = .int k ∧ S[a]? = some (.lst xs) ∧ ixN xs.length k = some j ∧ Q (S.set a (.lst (xs.set j v)))) ∨
    (∃ (a : Nat) (k : Key) (kvs : List (Key × D)), o = .ref a ∧ keyOf i = some k ∧ S[a]? = some (.dk false kvs) ∧ kvs.length < sizeLine ∧ Q (S.set a (.dk false (dPut kvs k v)))) ∨
    ∃ (a : Nat) (k : NestedKey) (kvs : List (NestedKey × D)), o = .ref a ∧ ndKey i = some k ∧ S[a]? = some (.nd false kvs) ∧ kvs.length < sizeLine ∧ Q (S.set a (.nd false (dPut kvs k v))) := by
  unfold wpSet at h
  split at h
  · split at h
    · rename_i e1
      split at h
      · rename_i e2
        exact .inl ⟨_, _, _, _, rfl, rfl, e1, e2, h⟩
      · exact h.elim
    · rename_i e1
      exact .inr (.inl ⟨_, _, _, rfl, rfl, e1, h.1, h.2⟩)
    · exact h.elim
  · split at h
    · rename_i e1
      exact .inr (.inl ⟨_, _, _, rfl, rfl, e1, h.1, h.2⟩)
    · exact h.elim
  · split at h
    · rename_i e1
      split at h
      · rename_i hk
        exact .inr (.inr ⟨_, _, _, rfl, hk, e1, h.1, h.2⟩)
      · exact h.elim
    · exact h.elim
  · exact h.elim
def rSetD : TSet := fun o i v H Q => ∃ a H', o = .ref a ∧ DPut H a i v H' ∧ Q H'
theorem set_dict {X : Cx} (hu : X.A.units + 1 < cLine) : PSet X rSetD := by
  intro pins s σ H o i v ov iv u Q I ro ri rv ⟨a, H', eo, g, q⟩
  subst eo
  obtain rfl : ov = Value.ref a := ro
  exact d_setItem hu I g ri rv fun s4 I4 => ⟨H', I4, q⟩
theorem PSet.or {X : Cx} {t t' : TSet} (h : PSet X t) (h' : PSet X t') : PSet X (fun o i v H Q => t o i v H Q ∨ t' o i v H Q) := by
  intro pins s σ H o i v ov iv u Q I ro ri rv q
  rcases q with q | q
  · exact h pins s σ H o i v ov iv u Q I ro ri rv q
  · exact h' pins s σ H o i v ov iv u Q I ro ri rv q
section
variable {X : Cx} {T : Tbl} {c : CallT} {W : WX} {pos : Pos} (hc : CallMono c c) {a b e o tg : Expr} {xa xb xe xo : MX} {sts : List Stmt} {st : Stmt} {ms : MS} {mss : MSs} {b1 b2 : List Stmt} {m1 m2 : MSs}
include hc
theorem sd_ps0 : PSs X [] (tSs T X.K W c .nil) := impSs pss_nil fun D' ς H ⟨ρ, σ, S, D, s, h⟩ => by
  simp only [wpSs] at h
  exact s.nx h
theorem sd_pss (h1 : PS X st (tS T X.K W c ms)) (h2 : PSs X sts (tSs T X.K W c mss)) : PSs X (st :: sts) (tSs T X.K W c (.cons ms mss)) := impSs (pss_cons h1 h2) fun D' ς H ⟨ρ, σ, S, D, s, h⟩ => by
  simp only [wpSs] at h
  exact ⟨ρ, σ, S, { D with nx := fun σ' S' => wpSs c mss D σ' S' }, ⟨s.wd, s.er, ⟨fun σ' S' q ρ' ς' H' e w r => ⟨ρ', σ', S', D, ⟨w, r, s.en.ext e⟩, q⟩, s.en.rt, s.en.bk, s.en.ct, s.en.ex⟩⟩, h⟩
theorem sd_asg {t : Tg} (he : PE X e (tE T X.K c W xe)) (hg : PG X tg (gT X.K t)) (hs : swapsWithSole [tg] e pos.line X.env = pure false) (hw : swappedStores [tg] e X.env = pure none) (h1 : (assignEach [tg] X.env).map (·.2) = [assign tg X.env]) :
    PS X (.Assign [tg] e pos) (tS T X.K W c (.asg (.tg t) xe)) := impS (ps_asg he hg hs hw h1) fun D' ς H ⟨ρ, σ, S, D, s, h⟩ => by
  simp only [wpS, wpLt] at h
  refine tE_of hc s.st h fun x S1 ρ1 H1 v h1 e1 w1 r1 => ?_
  split at h1
  · rename_i σ' ha
    exact asg_ok t ha r1 (s.er.ext e1) fun ς' e' _ => s.en.nx _ _ h1 _ _ _ e1 w1 e'
  · exact h1.elim
theorem sd_setIx (tw : T.w = X.w) {i : Expr} {xi : MX} {tpos : Pos} (hu : X.A.units + 65 < cLine) (he : PE X e (tE T X.K c W xe)) (ho : PE X o (tE T X.K c W xo)) (hi : PE X i (tE T X.K c W xi)) (ha : ∀ v, assign (.Subscript o i tpos) X.env v = (do
      let ov ← holding [v] (eval o X.env)
      let iv ← holding [v, ov] (eval i X.env)
      standAt tpos
      holding [v, ov, iv] (setItem ov iv v)
      release [v, ov, iv] [])) (hs : swapsWithSole [.Subscript o i tpos] e pos.line X.env = pure false) :
    PS X (.Assign [.Subscript o i tpos] e pos) (tS T X.K W c (.asg (.ix xo xi) xe)) := impS (ps_asg he (pg_sub ho hi (PSet.or set_list (PSet.or (set_dict (by omega)) (set_nd (by omega)))) ha) hs rfl rfl) fun D' ς H ⟨ρ, σ, S, D, s, h⟩ => by
  simp only [wpS, wpLt] at h
  refine tE_of hc s.st h fun x S1 ρ1 H1 v h1 e1 w1 r1 => tE_of hc (s.st.next e1 w1) h1 fun y S2 ρ2 H2 u h2 e2 w2 r2 => tE_of hc (s.st.next (e1.trans e2) w2) h2 fun z S3 ρ3 H3 w h3 e3 w3 r3 => ?_
  have r2' := r2.ext e3
  rcases wpSet_inv h3 with ⟨a, k, ys, j, rfl, rfl, ey, ej, h3⟩ | ⟨a, k, kvs, rfl, hk, ey, hl, h3⟩ | ⟨a, k, kvs, rfl, hk, ey, hl, h3⟩
  · cases r2'
    cases r3
    obtain ⟨vs, q, r⟩ := w3.lstAt ey
    have e4 := ((e1.trans e2).trans e3).trans (Ext.setL (K := X.K) (ρ := ρ3) (S := S3) (ws := vs.set j v) (u := .lst (ys.set j x)) (w3.lt ey) q)
    exact .inl ⟨_, _, k, j, rfl, rfl, q, by rw [← r.length]; exact ej, s.en.nx _ _ h3 ρ3 ς _ e4 (w3.setL ey q (r.set ((r1.ext e2).ext e3) j)) (s.er.ext e4)⟩
  · cases r2'
    obtain ⟨vs, q, ke, rd⟩ := w3.ob _ _ ey
    have hlen : kvs.length = vs.length := by have := congrArg List.length ke; simpa using this
    have rv := (r1.ext e2).ext e3
    have e4 := ((e1.trans e2).trans e3).trans (Ext.setO (K := X.K) (ρ := ρ3) (S := S3) (v := .dK (putK vs k v)) (o := .dk false (dPut kvs k x)) (w3.lt ey) q trivial)
    exact .inr (.inl ⟨_, _, rfl, .inl ⟨vs, k, q, keyOf_kV hk r3, by omega, rfl⟩, s.en.nx _ _ h3 ρ3 ς _ e4 (w3.setDk ey q ke rd k rv) (s.er.ext e4)⟩)
  · cases r2'
    obtain ⟨xs, q, ke, rk, rd, z⟩ := w3.ob _ _ ey
    obtain ⟨b, rfl, hb⟩ := nk_of hk r3
    have hlen : kvs.length = xs.length := by have := congrArg List.length ke; simpa using this
    have rv := (r1.ext e2).ext e3
    have e4 := ((e1.trans e2).trans e3).trans (Ext.setO (K := X.K) (ρ := ρ3) (S := S3) (v := .ext (NdP T.w (ρ3 a) (putX xs k b v))) (o := .nd false (dPut kvs k x)) (w3.lt ey) q trivial)
    refine .inr (.inr ⟨_, b, xs, k, rfl, rfl, by rw [← tw]; exact q, nks_of ke rk z, hb, by omega, ?_⟩)
    rw [← tw]
    exact s.en.nx _ _ h3 ρ3 ς _ e4 (w3.setNd ey hk r3 rv q ke rk rd z) (s.er.ext e4)
theorem sd_setF {f : Str} {tpos : Pos} (hcl : ∀ c C, T c = some (C, none) → Cls X.K C ∧ NoAttr X.K C f) (he : PE X e (tE T X.K c W xe)) (ho : PE X o (tE T X.K c W xo)) (hs : swapsWith e (some (.Attribute o f tpos)) pos.line X.env = pure false) :
    PS X (.Assign [.Attribute o f tpos] e pos) (tS T X.K W c (.asg (.fld xo f) xe)) := impS (ps_fld ho he hs) fun D' ς H ⟨ρ, σ, S, D, s, h⟩ => by
  simp only [wpS, wpLt] at h
  refine tE_of hc s.st h fun x S1 ρ1 H1 v h1 e1 w1 r1 => tE_of hc (s.st.next e1 w1) h1 fun y S2 ρ2 H2 u h2 e2 w2 r2 => ?_
  cases r2 with
  | ref hl =>
    simp only [wpPutF] at h2
    split at h2
    · rename_i cn fs ey
      obtain ⟨C, dx, vs, t, q, ed, ke, rd⟩ := w2.insAt ey
      obtain ⟨c1, c2⟩ := hcl _ _ t
      have hlen : fs.length = vs.length := by have := congrArg List.length ke; simpa using this
      have rv := r1.ext e2
      have e4 := (e1.trans e2).trans (Ext.setO (K := X.K) (ρ := ρ2) (S := S2) (v := .ins C dx (putF f v vs)) (o := .ins cn (putFD f x fs)) (w2.lt ey) q trivial)
      exact ⟨_, C, dx, vs, rfl, q, c1, c2, by rw [← hlen]; exact h2.1, s.en.nx _ _ h2.2 ρ2 ς _ e4 (w2.setF ey t q ed ke rd f rv) (s.er.ext e4)⟩
    · exact h2.elim
  | _ => exact h2.elim
theorem sd_par {i j : Nat} {x y : Str} {px py pt : Pos} {kt k2 : Nat} {pt2 : Pos} (cm : X.calm = true) (hN : X.N.Nodup) (hi : X.N[i]? = some x) (hj : X.N[j]? = some y) (hij : i ≠ j) (hx : X.env.scope.names.lookup x = some .local) (hy : X.env.scope.names.lookup y = some .local)
    (ha : PE X a (tE T X.K c W xa)) (hb : PE X b (tE T X.K c W xb)) (na : starEach [a, b] X.env = (false, eval a X.env) :: starEach [b] X.env) (nb : starEach [b] X.env = (false, eval b X.env) :: starEach [] X.env) (hw : swappedStores [.Tuple [.Name x px, .Name y py] kt pt] (.Tuple [a, b] k2 pt2) X.env = pure (some [x, y])) :
    PS X (.Assign [.Tuple [.Name x px, .Name y py] kt pt] (.Tuple [a, b] k2 pt2) pos) (tS T X.K W c (.asg (.tg (.tp [.nm i, .nm j])) (.tup (.cons xa (.cons xb .nil))))) := impS (ps_par cm hN hi hj hij hx hy (pa_cons ha (pa_cons hb pa_nil nb) na) hw rfl) fun D' ς H ⟨ρ, σ, S, D, s, h⟩ => by
  simp only [wpS, wpLt, wpE, wpEs] at h
  refine tE_of hc s.st h fun x S1 ρ1 H1 v h1 e1 w1 r1 => tE_of hc (s.st.next e1 w1) h1 fun y S2 ρ2 H2 u h2 e2 w2 r2 => ?_
  have h3 := h2.2
  simp only [asg, asgs] at h3
  have e3 := e1.trans e2
  exact ⟨v, u, rfl, s.en.nx _ _ h3 _ _ _ e3 w2 (((s.er.ext e3).set (r1.ext e2)).set r2)⟩
theorem sd_par3 {d : Expr} {xd : MX} {i j l : Nat} {x y z : Str} {px py pz pt : Pos} {kt k2 : Nat} {pt2 : Pos} (cm : X.calm = true) (hN : X.N.Nodup) (hi : X.N[i]? = some x) (hj : X.N[j]? = some y) (hl : X.N[l]? = some z) (hij : i ≠ j) (hil : i ≠ l) (hjl : j ≠ l) (hx : X.env.scope.names.lookup x = some .local) (hy : X.env.scope.names.lookup y = some .local) (hz : X.env.scope.names.lookup z = some .local)
    (ha : PE X a (tE T X.K c W xa)) (hb : PE X b (tE T X.K c W xb)) (hd : PE X d (tE T X.K c W xd)) (na : starEach [a, b, d] X.env = (false, eval a X.env) :: starEach [b, d] X.env) (nb : starEach [b, d] X.env = (false, eval b X.env) :: starEach [d] X.env) (nd : starEach [d] X.env = (false, eval d X.env) :: starEach [] X.env)
    (hw : swappedStores [.Tuple [.Name x px, .Name y py, .Name z pz] kt pt] (.Tuple [a, b, d] k2 pt2) X.env = pure (some [x, y, z])) :
    PS X (.Assign [.Tuple [.Name x px, .Name y py, .Name z pz] kt pt] (.Tuple [a, b, d] k2 pt2) pos) (tS T X.K W c (.asg (.tg (.tp [.nm i, .nm j, .nm l])) (.tup (.cons xa (.cons xb (.cons xd .nil)))))) := impS (ps_par3 cm hN hi hj hl hij hil hjl hx hy hz (pa_cons ha (pa_cons hb (pa_cons hd pa_nil nd) nb) na) hw rfl) fun D' ς H ⟨ρ, σ, S, D, s, h⟩ => by
  simp only [wpS, wpLt, wpE, wpEs] at h
  refine tE_of hc s.st h fun x S1 ρ1 H1 v h1 e1 w1 r1 => tE_of hc (s.st.next e1 w1) h1 fun y S2 ρ2 H2 u h2 e2 w2 r2 => tE_of hc (s.st.next (e1.trans e2) w2) h2 fun z S3 ρ3 H3 u3 h3 e3 w3 r3 => ?_
  have h4 := h3.2
  simp only [asg, asgs] at h4
  have e12 := e1.trans e2
  have e4 := e12.trans e3
  exact ⟨v, u, u3, rfl, s.en.nx _ _ h4 _ _ _ e4 w3 ((((s.er.ext e4).set ((r1.ext e2).ext e3)).set (r2.ext e3)).set r3)⟩
theorem sd_ex (he : PE X e (tE T X.K c W xe)) (hs : swapsWith e none pos.line X.env = pure false) : PS X (.Expr e pos) (tS T X.K W c (.ex xe)) := impS (ps_expr he hs) fun D' ς H ⟨ρ, σ, S, D, s, h⟩ => by
  simp only [wpS] at h
  exact tE_of hc s.st h fun x S1 ρ1 H1 v h1 e1 w1 r1 => s.en.nx _ _ h1 _ _ _ e1 w1 (s.er.ext e1)
theorem sd_if (ht : PT X a (tT T X.K c W xa)) (h1 : PSs X b1 (tSs T X.K W c m1)) (h2 : PSs X b2 (tSs T X.K W c m2)) : PS X (.If a b1 b2 pos) (tS T X.K W c (.iff xa m1 m2)) := impS (ps_if ht h1 h2) fun D' ς H ⟨ρ, σ, S, D, s, h⟩ => by
  simp only [wpS] at h
  refine tT_of hc s.st h fun x S1 h1 => truK_mono h1 fun k q ρ1 H1 e1 w1 => ?_
  cases k with
  | true => exact ⟨ρ1, σ, S1, D, s.next e1 w1, q⟩
  | false => exact ⟨ρ1, σ, S1, D, s.next e1 w1, q⟩
theorem sd_ret (he : PE X e (tE T X.K c W xe)) : PS X (.Return (some e) pos) (tS T X.K W c (.ret xe)) := impS (ps_ret he) fun D' ς H ⟨ρ, σ, S, D, s, h⟩ => by
  simp only [wpS] at h
  exact tE_of hc s.st h fun x S1 ρ1 H1 v h1 e1 w1 r1 => s.en.rt _ _ h1 _ _ _ e1 w1 r1
theorem sd_ret0 : PS X (.Return none pos) (tS T X.K W c .ret0) := impS ps_retN fun D' ς H ⟨ρ, σ, S, D, s, h⟩ => by
  simp only [wpS] at h
  exact s.en.rt _ _ h _ _ _ Ext.refl s.wd .non
theorem sd_brk : PS X (.Break pos) (tS T X.K W c .brk) := impS ps_break fun D' ς H ⟨ρ, σ, S, D, s, h⟩ => by
  simp only [wpS] at h
  exact s.en.bk _ _ h _ _ _ Ext.refl s.wd s.er
theorem sd_cnt : PS X (.Continue pos) (tS T X.K W c .cnt) := impS ps_continue fun D' ς H ⟨ρ, σ, S, D, s, h⟩ => by
  simp only [wpS] at h
  exact s.en.ct _ _ h _ _ _ Ext.refl s.wd s.er
theorem sd_pas : PS X (.Pass pos) (tS T X.K W c .pas) := impS ps_pass fun D' ς H ⟨ρ, σ, S, D, s, h⟩ => by
  simp only [wpS] at h
  exact s.nx h
theorem sd_whl (hp : PassesOwn (model X.prog X.w) X.A X.env X.xe) (ht : PT X a (tT T X.K c W xa)) (h1 : PSs X b1 (tSs T X.K W c m1)) : PS X (.While a b1 [] pos) (tS T X.K W c (.whl xa m1)) := impS (ps_while hp ht h1) fun D' ς H ⟨ρ, σ, S, D, s, h⟩ => by
  simp only [wpS] at h
  obtain ⟨V, ⟨m0, v0⟩, turn⟩ := h
  refine ⟨fun m ς' H' => ∃ ρ' σ' S', Ext X.K ρ S.length H ρ' S'.length H' ∧ Wd T X.K ρ' S' H' ∧ ER X.K ρ' S'.length H' σ' ς' ∧ V m σ' S', ⟨m0, ρ, σ, S, Ext.refl, s.wd, s.er, v0⟩, ?_⟩
  rintro m ς1 H1 ⟨ρ1, σ1, S1, e1, w1, r1, v1⟩
  have s1 : StS T X.K W D D' ρ1 σ1 S1 ς1 H1 := ⟨w1, r1, s.en.ext e1⟩
  refine tT_of hc s1.st (turn m σ1 S1 v1) fun x S2 h2 => truK_mono h2 fun k q ρ2 H2 e2 w2 => ?_
  cases k with
  | true =>
    refine ⟨fun ς' H' => ∃ m', m' < m ∧ ∃ ρ' σ' S', Ext X.K ρ S.length H ρ' S'.length H' ∧ Wd T X.K ρ' S' H' ∧ ER X.K ρ' S'.length H' σ' ς' ∧ V m' σ' S', fun ς' H' z => z, ?_⟩
    have s2 := s1.next e2 w2
    refine ⟨ρ2, σ1, S2, { D with nx := fun σ' S' => ∃ m', m' < m ∧ V m' σ' S', ct := fun σ' S' => ∃ m', m' < m ∧ V m' σ' S', bk := D.nx }, ⟨w2, s2.er, ⟨fun σ' S' ⟨m', hm, hv⟩ ρ' ς' H' e' w' r' => ⟨m', hm, ρ', σ', S', (e1.trans e2).trans e', w', r', hv⟩, s2.en.rt, s2.en.nx, fun σ' S' ⟨m', hm, hv⟩ ρ' ς' H' e' w' r' => ⟨m', hm, ρ', σ', S', (e1.trans e2).trans e', w', r', hv⟩, s2.en.ex⟩⟩, q⟩
  | false => exact s1.en.nx _ _ q _ _ _ e2 w2 (s1.er.ext e2)
/-- the turns of a walk -/
theorem for_run {J : It} {xs : List MP.D} {gs : List (Nat × List MP.D)} {t : Tg} {D : MP.Ends} {D' : L2.Ends} {ρ1 : Nat → Addr} {σ : Env} {S1 : Sto} {ς : L2.St} {H1 : Hp} (io : ItOk (T := T) (K := X.K) J xs gs ρ1 S1.length H1) (s1 : StS T X.K W D D' ρ1 σ S1 ς H1)
    (h1 : wpFor gs (fun x σ2 S2 K => match asg t x σ2 with
        | some σ3 => wpSs c m1 { D with nx := K, ct := K, bk := D.nx } σ3 S2
        | none => False) D.nx xs σ S1) :
    ∃ V : Nat → Nat → L2.St → Hp → Prop, (∃ m, V 0 m ς H1) ∧ ∀ i m ς H, V i m ς H → (J.stop i H ∧ D'.nx ς H) ∨ (J.go i H ∧ ∃ N : L2.St → Hp → Prop, (∀ ς' H', N ς' H' → ∃ m', m' < m ∧ V (i + 1) m' ς' H') ∧ ∀ x H', J.yld i H x H' → gT X.K t x ς H' fun ς2 H2 => tSs T X.K W c m1 { D' with nx := N, ct := N, bk := D'.nx } ς2 H2) := by
  let body : MP.D → Env → Sto → (Env → Sto → Prop) → Prop := fun x σ2 S2 K => match asg t x σ2 with
        | some σ3 => wpSs c m1 { D with nx := K, ct := K, bk := D.nx } σ3 S2
        | none => False
  refine ⟨fun i m ς' H' => m = xs.length - i ∧ ∃ ρ' σ' S', Ext X.K ρ1 S1.length H1 ρ' S'.length H' ∧ Wd T X.K ρ' S' H' ∧ ER X.K ρ' S'.length H' σ' ς' ∧ wpFor gs body D.nx (xs.drop i) σ' S', ⟨_, rfl, ρ1, σ, S1, Ext.refl, s1.wd, s1.er, h1⟩, ?_⟩
  rintro i m ς2 H2 ⟨rfl, ρ2, σ2, S2, e2, w2, r2, h2⟩
  have s2 : StS T X.K W D D' ρ2 σ2 S2 ς2 H2 := ⟨w2, r2, s1.en.ext e2⟩
  cases hx : xs[i]? with
  | none =>
    have hi' := List.getElem?_eq_none_iff.mp hx
    rw [List.drop_eq_nil_of_le hi'] at h2
    simp only [wpFor] at h2
    exact .inl ⟨io.stop ρ2 S2 H2 i e2 w2 h2.1 hi', s2.nx h2.2⟩
  | some d =>
    have hlt := (List.getElem?_eq_some_iff.mp hx).1
    have hdr : xs.drop i = d :: xs.drop (i + 1) := by
      rw [List.drop_eq_getElem_cons hlt]
      congr 1
      exact (List.getElem?_eq_some_iff.mp hx).2
    rw [hdr] at h2
    simp only [wpFor] at h2
    obtain ⟨gd, hb⟩ := h2
    refine .inr ⟨io.go ρ2 S2 H2 i d e2 w2 gd hx, fun ς' H' => ∃ ρ' σ' S', Ext X.K ρ1 S1.length H1 ρ' S'.length H' ∧ Wd T X.K ρ' S' H' ∧ ER X.K ρ' S'.length H' σ' ς' ∧ wpFor gs body D.nx (xs.drop (i + 1)) σ' S', fun ς' H' z => ⟨_, by omega, rfl, z⟩, fun v H3 y => ?_⟩
    obtain ⟨e3, w3, rv, _⟩ := io.yld ρ2 S2 H2 i d v H3 e2 w2 gd hx y
    simp only [body] at hb
    cases ha : asg t d σ2 with
    | none => rw [ha] at hb; exact hb.elim
    | some σ3 =>
      rw [ha] at hb
      have s3 := s2.next (S1 := S2) e3 w3
      refine asg_ok t ha rv s3.er fun ς3 r3 _ => ⟨ρ2, σ3, S2, { D with nx := wpFor gs body D.nx (xs.drop (i + 1)), ct := wpFor gs body D.nx (xs.drop (i + 1)), bk := D.nx }, ⟨w3, r3, ⟨fun σ' S' q ρ' ς' H' e' w' r' => ⟨ρ', σ', S', (e2.trans e3).trans e', w', r', q⟩, s3.en.rt, s3.en.nx, fun σ' S' q ρ' ς' H' e' w' r' => ⟨ρ', σ', S', (e2.trans e3).trans e', w', r', q⟩, s3.en.ex⟩⟩, hb⟩
theorem sd_for {it : Expr} {mi : MI} {t : Tg} (hp : PassesOwn (model X.prog X.w) X.A X.env X.xe) (cm : X.calm = true) (hi : PI X tg it (tI T X.K c W mi)) (hg : PG X tg (gT X.K t)) (h1 : PSs X b1 (tSs T X.K W c m1)) (hs : ∀ x, foldedSetIterable it X.env x = pure x) :
    PS X (.For tg it b1 [] pos) (tS T X.K W c (.for_ t mi m1)) := impS (ps_for hp cm hi hg h1 hs) fun D' ς H ⟨ρ, σ, S, D, s, h⟩ => by
  simp only [wpS] at h
  exact ⟨ρ, σ, S, _, s.st, wpI_mono hc mi h (fun xs gs S1 h1 ρ1 H1 J e1 w1 io => for_run hc io (s.next e1 w1) h1) fun _ _ z => z⟩
omit hc in
theorem RD.untr1 {K : PySem.W.Frag} {ρ : Nat → Addr} {n : Nat} {H : Hp} {p : Addr} {u o : HO} (hp : H p = some u) (wr : Wr u) {x : MP.D} {v : V} (r : RD K ρ n H x v) : RD K ρ n (upd H p o) x v := by
  have := (RDs.cons r .nil).untr (o := o) hp wr
  cases this with
  | cons a _ => exact a
/-- for .. in a dict that a name holds -/
theorem sd_forD {t : Tg} {x : Str} {p : Pos} {j : Nat} (hp : PassesOwn (model X.prog X.w) X.A X.env X.xe) (cm : X.calm = true) (hN : X.N[j]? = some x) (hv : Vis X.env.scope x) (hd : (x == ("__debug__" : Str)) = false) (hcd : (x == ("__classdict__" : Str)) = false) (hg : PG X tg (gT X.K t)) (h1 : PSs X b1 (tSs T X.K W c m1)) :
    PS X (.For tg (.Name x p) b1 [] pos) (tS T X.K W c (.forD t j m1)) := impS (ps_lock (ps_for hp cm (pi_keys (pe_var hN hv hd hcd)) hg h1 (fun _ => rfl))) fun D' ς H ⟨ρ, σ, S, D, s, h⟩ => by
  simp only [wpS] at h
  split at h
  · rename_i a hσ
    split at h
    · rename_i kvs hS
      obtain ⟨v, hv', r⟩ := s.er.at_ j _ hσ
      cases r with
      | ref hl =>
        obtain ⟨vs', hq, ke, rd⟩ := s.wd.ob a _ hS
        refine ⟨ρ a, .dK vs', hq, trivial, fun od => ?_⟩
        have e1 : Ext X.K ρ S.length H ρ (S.set a (.dk true kvs)).length (upd H (ρ a) (.frz od (.dK vs'))) := Ext.setO hl hq trivial
        have w1 : Wd T X.K ρ (S.set a (.dk true kvs)) (upd H (ρ a) (.frz od (.dK vs'))) := s.wd.setO hS hq trivial ⟨od, vs', upd_same, ke, rd.ext (Ext.setAt hl hq trivial)⟩
        refine ⟨.ref (ρ a), hv', ρ a, od, rfl, .inl ⟨vs', upd_same, ?_⟩⟩
        have la' : a < (S.set a (.dk true kvs)).length := by rw [List.length_set]; exact hl
        -- free again
        have free : ∀ {S' : Sto} {ρ' : Nat → Addr} {H' : Hp}, S'[a]? = some (.dk true kvs) → Ext X.K ρ (S.set a (.dk true kvs)).length (upd H (ρ a) (.frz od (.dK vs'))) ρ' S'.length H' → Wd T X.K ρ' S' H' →
            H' (ρ a) = some (.frz od (.dK vs')) ∧ Ext X.K ρ S.length H ρ' (S'.set a (.dk false kvs)).length (upd H' (ρ a) (.dK vs')) ∧ Wd T X.K ρ' (S'.set a (.dk false kvs)) (upd H' (ρ a) (.dK vs')) := fun {S' ρ' H'} hk ex w' => by
          have hz : H' (ρ a) = some (.frz od (.dK vs')) := ex.fk _ _ _ upd_same
          have ea : ρ' a = ρ a := ex.ag a la'
          have hz' : H' (ρ' a) = some (.frz od (.dK vs')) := by rw [ea]; exact hz
          have w2 := w'.unlock hk hz'
          rw [ea] at w2
          have ex' : Ext X.K ρ S.length (upd H (ρ a) (.frz od (.dK vs'))) ρ' S'.length H' := by rw [List.length_set] at ex; exact ex
          have e3 := Ext.unlock hq hl rfl ex'
          rw [List.length_set]
          exact ⟨hz, e3, w2⟩
        refine for_run (J := Itk (ρ a) od vs') (D := ⟨unK a kvs D.nx, fun v S' => S'[a]? = some (.dk true kvs) ∧ D.rt v (S'.set a (.dk false kvs)), fun _ _ => False, fun _ _ => False, D.ex⟩) hc (itOk_keys upd_same ke) ⟨w1, s.er.ext e1, ⟨fun σ' S' q ρ' ς' H' ex w' r' => ?_, fun d S' q ρ' H' v ex w' r' => ?_, fun _ _ z => z.elim, fun _ _ z => z.elim, fun x σ' S' q ρ' ς' H' cl d ex w' r' rx => s.en.ex x σ' S' q ρ' ς' H' cl d (e1.trans ex) w' r' rx⟩⟩ h
        · obtain ⟨hz, e3, w3⟩ := free q.1 ex w'
          refine ⟨hz, s.en.nx σ' _ q.2 ρ' ς' _ e3 w3 ⟨r'.len, fun i d hd => ?_⟩⟩
          obtain ⟨v, hv, rv⟩ := r'.at_ i d hd
          rw [List.length_set]
          exact ⟨v, hv, RD.untr1 hz trivial rv⟩
        · obtain ⟨hz, e3, w3⟩ := free q.1 ex w'
          refine ⟨hz, s.en.rt d _ q.2 ρ' _ v e3 w3 ?_⟩
          rw [List.length_set]
          exact RD.untr1 hz trivial r'
    · exact h.elim
  · exact h.elim
end
end MP
/-! MPNd2: {k: v} of a nested tuple. -/
namespace MP
open PySem PySem.Spec PyProof.Rows L2
section
variable {X : Cx} {T : Tbl} {c : CallT} {W : WX} {pos : Pos} (hc : CallMono c c) {a b : Expr} {xa xb : MX}
include hc
theorem sd_ddisN (tw : T.w = X.w) (hu : X.A.units + 65 < cLine) (ha : PE X a (tE T X.K c W xa)) (hb : PE X b (tE T X.K c W xb)) : PE X (.Dict [some a] [b] pos) (tE T X.K c W (.ddisN xa xb)) := impE (pe_dispN ha hb (by omega)) fun ς H Q ⟨ρ, σ, S, E, s, h⟩ p hp => by
  rw [← tw]
  simp only [wpE] at h
  have s' := s.next (S1 := S) (Ext.new (o := .ext (NdP T.w p [])) hp) (s.wd.new hp)
  refine tE_of hc s' h fun x S1 ρ1 H1 v h1 e1 w1 r1 => tE_of hc (s'.next e1 w1) h1 fun y S2 ρ2 H2 u h2 e2 w2 r2 => ?_
  split at h2
  · rename_i k hk
    have fr0 : ∀ a, a < S.length → ρ a ≠ p := s.wd.free hp
    have e12 := e1.trans e2
    have hp2 : H2 p = some (.ext (NdP T.w p [])) := e12.fr p _ upd_same fr0
    have fr2 : ∀ a, a < S2.length → ρ2 a ≠ p := fun a la => by
      by_cases hh : a < S.length
      · rw [e12.ag a hh]; exact fr0 a hh
      · intro z
        have := e12.nw a (Nat.le_of_not_lt hh) la
        rw [z, upd_same] at this
        cases this
    have r1' := r1.ext e2
    obtain ⟨bb, rfl, hb2⟩ := nk_of hk r1'
    obtain ⟨k1, k2, k3⟩ := ndKey_inv hk
    have rk : RD X.K ρ2 S2.length H2 (nkD k) (.ref bb) := by rw [k1]; exact r1'
    refine ⟨hp2, bb, k, rfl, hb2, ?_⟩
    have w3 : Wd T X.K ρ2 S2 (upd H2 p (.ext (NdP T.w p [(k, bb, u)]))) := w2.untr hp2 trivial fr2
    have w4 := w3.adoptO (o := .nd false [(k, y)]) (p := p) ⟨[(k, bb, u)], upd_same, rfl, (RDs.cons rk .nil).untr hp2 trivial, (RDs.cons r2 .nil).untr hp2 trivial, fun kv hkv => by rw [List.mem_singleton.mp hkv]; exact ⟨k2, k3⟩⟩ fr2
    have e00 : Ext X.K ρ S.length H ρ2 S2.length H2 := (Ext.new (o := .ext (NdP T.w p [])) hp).trans e12
    have e3 := (e00.untr (o := .ext (NdP T.w p [(k, bb, u)])) hp hp2 trivial).adopt (p := p) hp
    have e4 : Ext X.K ρ S.length H (nxt ρ2 S2.length p) (S2 ++ [O.nd false [(k, y)]]).length (upd H2 p (.ext (NdP T.w p [(k, bb, u)]))) := by
      rw [List.length_append, List.length_singleton]
      exact e3
    have r0 : RD X.K (nxt ρ2 S2.length p) (S2 ++ [O.nd false [(k, y)]]).length (upd H2 p (.ext (NdP T.w p [(k, bb, u)]))) (.ref S2.length) (.ref (nxt ρ2 S2.length p S2.length)) := .ref (by simp)
    rw [nxt_self] at r0
    exact h2 _ _ _ e4 w4 r0
  · exact h2.elim
end
end MP
/-! MPDef: a call that leaves the last arguments to their defaults. -/
namespace MP
open PySem PySem.Spec PyProof.Rows L2
theorem run_fnDS {X : Cx} {CX : CXT} {k : Nat} {f : Addr} {fd : FuncData} {ps : List Str} {sp : Sp} {E : XK} {pins : List (Addr × Obj)} {σ : L2.St} {H : Hp} {s : Shared} {Q : VK} {us ds : List Value} {vs dvs : List V} (F : FnOk X.prog X.w X.K X.mg X.base CX k f fd ps sp) (hr : Room k X.A) (hb : Binds X.K fd ps ds) (hd : Vals dvs ds) (hx : PassesAt CX X σ E) (I : L2.Inv X pins σ H s) (r : Vals vs us) (h : sp (vs ++ dvs) H Q E) : wpAny (model X.prog X.w) X.A (call (.ref f) us) (EP X pins σ Q) X.xe s := by
  have hl := F.len _ H Q E h
  have rr : Vals (vs ++ dvs) (us ++ ds) := r.append hd
  have b := hb s us I.kIn (by rw [← rr.length]; exact hl)
  refine wpAny_call (codeAny_mono (F.run X.A X.stack s H { pos := us } (us ++ ds) (vs ++ dvs) Q E hr I.env0 b rr h) fun r s' hq => ?_)
  cases r with
  | error e => exact hx pins H s e s' I hq
  | ok fl =>
    cases fl with
    | ret u => exact I.after hq
    | _ => exact hq.elim
def appX : MXs → MXs → MXs
  | .nil, ys => ys
  | .cons x xs, ys => .cons x (appX xs ys)
def csts : List D → MXs
  | [] => .nil
  | d :: r => .cons (.cst d) (csts r)
section
variable {X : Cx} {T : Tbl} {c : CallT} {W : WX} {pos : Pos} (hc : CallMono c c) {e : Expr} {es : List Expr} {xs : MXs}
theorem wpEs_csts : ∀ {ds : List D} {E : Ex → Sto → Prop} {σ : Env} {S : Sto} {Q : List D → Sto → Prop}, wpEs c (csts ds) E σ S Q → Q ds S
  | [], E, σ, S, Q, h => by
    simp only [csts, wpEs] at h
    exact h
  | d :: r, E, σ, S, Q, h => by
    simp only [csts, wpEs, wpE] at h
    exact wpEs_csts (Q := fun xs S' => Q (d :: xs) S') h
include hc
theorem wpEs_app {ds : List D} : ∀ {xs : MXs} {E : Ex → Sto → Prop} {σ : Env} {S : Sto} {Q : List D → Sto → Prop}, wpEs c (appX xs (csts ds)) E σ S Q → wpEs c xs E σ S fun vs S' => Q (vs ++ ds) S'
  | .nil, E, σ, S, Q, h => by
    simp only [appX] at h
    simp only [wpEs]
    exact wpEs_csts h
  | .cons x xs, E, σ, S, Q, h => by
    simp only [appX, wpEs] at h ⊢
    exact wpE_mono hc x h (fun v S1 h1 => wpEs_app h1) fun _ _ z => z
theorem sd_callD {x : Str} {p : Pos} {k f : Nat} {fa : Addr} {fd : FuncData} {ps : List Str} {ds : List D} {dvs : List V} {dus : List Value} (F : FnOk X.prog X.w X.K X.mg X.base (L2.CX X.prog X.w) k fa fd ps (spM T X.K c f ps.length)) (hr : Room k X.A) (hg : Gl X x) (hm : X.mg x = some (.ref fa)) (hk : PySem.W.keepIn X.K (.ref fa) = true) (rd : ∀ ρ n H, RDs X.K ρ n H ds dvs) (hv : Vals dvs dus) (hb : Binds X.K fd ps dus) (tk : Takes X W)
    (hlen : ∀ σ S E Q, wpEs c xs E σ S Q → wpEs c xs E σ S fun vs S' => vs.length + ds.length = ps.length ∧ Q vs S') (ha : PA X (e :: es) (tA T X.K c W xs)) (hdb : (x == ("__debug__" : Str)) = false) (he : starEach (e :: es) X.env = (false, eval e X.env) :: starEach es X.env) (hpl : (backTo pos (starEach es X.env)).any (·.1) = false) :
    PE X (.Call (.Name x p) (e :: es) [] pos) (tE T X.K c W (.call f (appX xs (csts ds)))) := by
  refine ⟨fun pins s ς H Q I ⟨ρ, σ, S, E, st, h⟩ => ?_⟩
  unfold wpE at h
  refine wpAny_Call_Name_kw (ld_glob I hg hm (PySem.W.callWith_K I.ok.mod.kin hk (thn (ha.run pos pins s ς H (fun vs H1 => spM T X.K c f ps.length (vs ++ dvs) H1 Q (WE W ς)) I ?_) fun us s1 h1 => ?_) he hpl) hdb)
  · refine tA_of hc st (hlen _ _ _ _ (wpEs_app hc h)) fun y S2 ρ2 H2 u h2 e2 w2 r2 => ?_
    exact ⟨ρ2, S2, y ++ ds, E, w2, r2.append (rd _ _ _), by simpa using h2.1, fun x S' hx ρ' H' cl d e' w' r' => st.ex x S' hx ρ' H' cl d (e2.trans e') w' r', hc _ _ _ _ _ _ _ h2.2 (fun d S' q => Pst.ext e2 q) fun _ _ z => z⟩
  · obtain ⟨vs, H1, I1, r, q⟩ := h1
    exact ⟨I1.kIn, run_fnDS F hr hb hv (passAt tk ς) I1 r q⟩
end
end MP
/-! MPExc0: own exceptions with fields, as rules of the layer: __init__, raise, isinstance of what is handled. -/
namespace MP
open PySem PySem.Spec PyProof.Rows L2

/-- what is told of an exception class at C, its __init__ at fI, its fields -/
structure XC (K : PySem.W.Frag) (C fI : Addr) (fs : List Str) : Prop where
  oex : OexC K C
  ini : PySem.W.findIn K (.ref C) "__init__" = some (some (.ref fI))
  tyI : PySem.W.typeIn K (.ref fI) = some (.type "function")
  noF : ∀ f ∈ fs, PySem.W.findIn K (.ref C) f = some none
  ga : PySem.W.findIn K (.ref C) "__getattribute__" = some (some (.builtin "BaseException.__getattribute__"))
  gg : PySem.W.findIn K (.ref C) "__getattr__" = some none
  hd : PySem.W.hasDictIn K C = true
  ha : PySem.W.findIn K (.ref C) "__class__" = some (some (.builtin "object.__class__"))
  hn : PySem.W.specialIn K (.builtin "object.__class__") "__get__" = some (some (.builtin "getset_descriptor.__get__"))
  ht : PySem.W.takesIn K (.builtin "object.__class__") = some true
  hm : PySem.W.mroIn K C (.type "object") = some true
theorem XC.xf {K : PySem.W.Frag} {C fI : Addr} {fs : List Str} (h : XC K C fI fs) : XfC K C := ⟨h.ga, h.gg, h.oex.exC, h.hd⟩
/-- __init__(self, f): self.f = f -/
def spInit (C : Addr) (f : Str) : Sp := fun vs H Q _ => ∃ (a : Addr) (y : V), vs = [.ref a, y] ∧ H a = some (exo a C none) ∧ ∀ dx, H dx = none → dx ≠ a → Q .non (upd (upd H dx (exd dx [(f, y)])) a (exo a C (some dx)))
section
variable {P : Program} {w : World} {K : PySem.W.Frag} {mg : Str → Option Value} {base : Heap}
theorem init_ok {qual f : Str} {st : Stmt} {C fI : Addr} {fd : FuncData} (F : Fun K "__init__" qual st fI fd) (S : FnScope ["self", f] ["self", f] (defScope st)) {p1 p2 p3 pos : Pos} (hb : defBody st = [.Assign [.Attribute (.Name "self" p1) f p2] (.Name f p3) pos])
    (h0 : Vis (defScope st) "self") (h1 : Vis (defScope st) f) (hd : (f == ("__debug__" : Str)) = false) (hcd : (f == ("__classdict__" : Str)) = false) (oex : OexC K C) (noF : PySem.W.findIn K (.ref C) f = some none) : FnOk P w K mg base (L2.CX P w) 1 fI fd ["self", f] (spInit C f) := by
  refine F.okX S (fun vs H Q E h => ?_) (fun cdv A outer s H vs Q E hr h => ?_)
  · obtain ⟨a, y, rfl, _⟩ := h
    rfl
  · obtain ⟨a, y, rfl, ha, q⟩ := h
    rw [hb]
    refine ⟨_, pss_cons (ps_ost (pe_var (i := 0) rfl h0) (pe_var (i := 1) rfl h1 hd hcd)) pss_nil, ?_⟩
    refine ⟨y, rfl, .ref a, rfl, a, C, rfl, oex, noF, .inl ⟨ha, fun dx n ne => ?_⟩⟩
    exact q dx n ne
/-- raise C(e): what is asked behind e -/
def rsW (C : Addr) (f : Str) (W : WX) (σ : L2.St) : VK := fun y H1 => [y].length ≤ 1000 ∧ ∀ a, H1 a = none → spInit C f (.ref a :: ([y] ++ [])) (upd H1 a (exo a C none))
  (fun v H2 => v = .non ∧ ∃ (d : Addr) (fs : List (Str × V)), H2 a = some (exo a C (some d)) ∧ H2 d = some (exd d fs) ∧ H1 d = none ∧ W (.ref C) (some d) σ (upd (del H2 a) d (.xd fs))) (fun _ _ _ => False)
theorem rsW_of {C : Addr} {f : Str} {W : WX} {σ : L2.St} {y : V} {H1 : Hp} (h : ∀ d, H1 d = none → W (.ref C) (some d) σ (upd H1 d (.xd [(f, y)]))) : rsW C f W σ y H1 := by
  refine ⟨by show (1 : Nat) ≤ 1000; decide, fun a ha => ⟨a, y, rfl, upd_same, fun dx hn ne => ⟨rfl, dx, [(f, y)], upd_same, ?_, ?_, ?_⟩⟩⟩
  · rw [upd_ne ne, upd_same]
  · rw [upd_ne ne] at hn
    exact hn
  · have hn' : H1 dx = none := by rw [upd_ne ne] at hn; exact hn
    have e : upd (del (upd (upd (upd H1 a (exo a C none)) dx (exd dx [(f, y)])) a (exo a C (some dx))) a) dx (.xd [(f, y)]) = upd H1 dx (.xd [(f, y)]) := by
      funext b
      by_cases h1 : b = dx
      · subst h1
        rw [upd_same, upd_same]
      · rw [upd_ne h1, upd_ne h1]
        by_cases h2 : b = a
        · subst h2
          rw [del_same, ha]
        · rw [del_ne h2, upd_ne h2, upd_ne h1, upd_ne h2]
    rw [e]
    exact h dx hn'
theorem ps_raiseX {X : Cx} {W : WX} {x f : Str} {C fI : Addr} {fd : FuncData} {e : Expr} {te : TE} {p pos pos2 : Pos} (hc : X.calm = true) (tk : Takes X W) (T : XC X.K C fI [f]) (F1 : FnOk X.prog X.w X.K X.mg X.base (L2.CX X.prog X.w) 1 fI fd ["self", f] (spInit C f)) (hr : Room 2 X.A) (hb : Binds X.K fd ["self", f] [])
    (hg : Gl X x) (hm : X.mg x = some (.ref C)) (he : PE X e te) (hdb : (x == ("__debug__" : Str)) = false) (hs : starEach [e] X.env = (false, eval e X.env) :: starEach [] X.env) :
    PS X (.Raise (some (.Call (.Name x p) [e] [] pos)) none pos2) (fun _ σ H => te σ H (rsW C f W σ)) :=
  ps_raise hc tk (pmk_oex T.oex T.ini T.tyI F1 hr hb .nil passL hg hm (pa_cons he pa_nil hs) hdb hs (by rw [show starEach ([] : List Expr) X.env = [] from rfl]; rfl))
end
/-! ### isinstance of what is handled -/
/-- the classes that are asked: one, or a tuple of them -/
def AskC (K : PySem.W.Frag) (H : Hp) (D : Addr) (c : V) (b : Bool) : Prop :=
  (∃ C, c = .ref C ∧ PySem.W.kitOne K (.ref D) (.ref C) = some b ∧ ∀ o xs, H C = some o → o ≠ .tup xs) ∨ ∃ (t : Addr) (Cs : List Addr), c = .ref t ∧ H t = some (.tup (Cs.map V.ref)) ∧ PySem.W.kitAny K (.ref D) (Cs.map Value.ref) = some b
def rIsX (K : PySem.W.Frag) (D a : Addr) (d : Option Addr) : List V → Hp → VK → Prop := fun xs H Q => ∃ (c : V) (b : Bool), xs = [.ref a, c] ∧ (∀ dd, d = some dd → ∃ fs, H dd = some (.xd fs)) ∧
  ((∃ C, c = .ref C ∧ PySem.W.kitOne K (.ref D) (.ref C) = some b) ∨ ∃ (t : Addr) (Cs : List Addr), c = .ref t ∧ H t = some (.tup (Cs.map V.ref)) ∧ PySem.W.kitAny K (.ref D) (Cs.map Value.ref) = some b) ∧ Q (.bl b) H
theorem refs_vals : ∀ {Cs : List Addr} {us : List Value}, Vals (Cs.map V.ref) us → us = Cs.map Value.ref
  | [], _, h => by cases h; rfl
  | C :: Cs, _, h => by
    cases h with
    | cons r t =>
      rw [refs_vals t]
      have e := r
      cases e
      rfl
theorem call_isX {X : Cx} {a D fI : Addr} {fs : List Str} {d : Option Addr} {oe : Obj} {pn : List (Addr × Obj)} (T : XC X.K D fI fs) (hz : Zc (.ref D) d oe) (hf : ∃ vs, oe.data = .fields vs) : CallR (X.suite a ((a, oe) :: pn)) (.builtin "isinstance") (rIsX X.K D a d) := by
  intro pins s σ H xs us Q I r h
  obtain ⟨c, b, rfl, hd, hc, q⟩ := h
  cases r with
  | cons rx rr =>
    cases rr with
    | cons rt rr =>
      cases rr
      cases rx
      obtain ⟨hget, _⟩ := I.pin (a, oe) (List.mem_append.mpr (.inl List.mem_cons_self))
      obtain ⟨vs, hv⟩ := hf
      obtain ⟨od, J⟩ : ∃ od, PySem.W.InstAt s.heap a oe D od := by
        cases d with
        | none =>
          refine ⟨none, ?_⟩
          obtain ⟨oc, od, oda, osl⟩ := oe
          obtain ⟨h1, h2⟩ := hz
          dsimp only at h1 h2 hv
          subst h1 h2 hv
          exact ⟨hget, rfl, rfl, trivial⟩
        | some dd =>
          obtain ⟨fs', ea⟩ := hd dd rfl
          have hx : ObjOk X.prog X.w H s.heap dd (.xd fs') := I.hok dd _ ea
          obtain ⟨mA, hns, hr⟩ := hx
          obtain ⟨od, ho, hl⟩ := lookIn_ns hns
          exact ⟨some od, hget, hz.1, by unfold PySem.W.notCls; rw [hv] <;> rfl, by rw [hz.2]; exact ho⟩
      have KX := PySem.W.kitx_exc (x := a) (ox := oe) (od := od) (C := D) (K := X.K) (by obtain ⟨cd, hc, _⟩ := PySem.W.any_some T.hd; rw [hc]; rfl) T.ga T.gg T.oex.exC T.ha T.hn T.ht T.hm
      rcases hc with ⟨C, rfl, e⟩ | ⟨t, Cs, rfl, ht, e⟩
      · obtain rfl : _ = Value.ref C := rt
        exact PySem.W.kia_one KX I.kIn J e (fun z => nomatch z) fun tk => ⟨.bl b, H, I.kept (t' := tk) fun _ _ z => z, rfl, q⟩
      · obtain rfl : _ = Value.ref t := rt
        obtain ⟨hl, its, rv, ⟨cls, dx, dat, sl⟩, ho, hcl, n, hdt⟩ := I.hok t _ ht
        simp only at hcl hdt
        subst hcl hdt
        rw [refs_vals rv] at ho
        exact PySem.W.kia_tup KX I.kIn J ho e (fun z => nomatch z) fun tk => ⟨.bl b, H, I.kept (t' := tk) fun _ _ z => z, rfl, q⟩
end MP
/-! MPExc1: raise C(e), try .. except X as n, isinstance(n, ..) and n.f in the suite. -/
namespace MP
open PySem PySem.Spec PyProof.Rows L2

theorem rvar {σ : Env} {S : Sto} {c : CallT} {E : Ex → Sto → Prop} {i : Nat} {R : KD} (h : wpE c (.var i) E σ S R) : ∃ v, σ[i]? = some (some v) ∧ R v S := by
  unfold wpE at h
  split at h
  · exact ⟨_, ‹_›, h⟩
  · exact h.elim
theorem inF_ints (x : Nat) : ∀ ns : List Nat, inF (.int (x : Int)) (ns.map fun (n : Nat) => D.int (n : Int)) = decide (x ∈ ns)
  | [] => by simp [inF]
  | p :: r => by
    have ih := inF_ints x r
    unfold inF at *
    show (eqF (.int (p : Int)) (.int (x : Int)) || (r.map fun (n : Nat) => D.int (n : Int)).any fun y => eqF y (.int (x : Int))) = _
    rw [ih]
    by_cases h : p = x
    · subst h; simp [eqF]
    · have : ((p : Int) == (x : Int)) = false := by rw [beq_eq_false_iff_ne]; omega
      simp [eqF, this, Ne.symm h]
section
variable {X : Cx} {T : Tbl} {c : CallT} {W : WX} {pos : Pos} (hc : CallMono c c) {e : Expr} {xe : MX}
include hc
theorem sd_rais {x f : Str} {cn k : Nat} {C fI : Addr} {fd : FuncData} {p pos2 : Pos} (T0 : T cn = some (C, some f)) (cm : X.calm = true) (tk : Takes X W) (TX : XC X.K C fI [f]) (F1 : FnOk X.prog X.w X.K X.mg X.base (L2.CX X.prog X.w) 1 fI fd ["self", f] (spInit C f)) (hb : Binds X.K fd ["self", f] []) (hr : Room k X.A) (lv : ∀ S Q E, c exLev [] S Q E → 2 ≤ k ∧ Q .non S)
    (hg : Gl X x) (hm : X.mg x = some (.ref C)) (he : PE X e (tE T X.K c W xe)) (hdb : (x == ("__debug__" : Str)) = false) (hs : starEach [e] X.env = (false, eval e X.env) :: starEach [] X.env) :
    PS X (.Raise (some (.Call (.Name x p) [e] [] pos)) none pos2) (tS T X.K W c (.rais cn xe)) := by
  refine ⟨fun pins s ς H D' I ⟨ρ, σ, S, D, st, h⟩ => ?_⟩
  simp only [wpS] at h
  obtain ⟨k2, h⟩ := lv _ _ _ h
  refine (ps_raiseX (p := p) (pos := pos) (pos2 := pos2) cm tk TX F1 (hr.mono k2) hb hg hm he hdb hs).run pins s ς H D' I ?_
  refine tE_of hc st.st h fun d S1 ρ1 H1 v h1 e1 w1 r1 => rsW_of fun dd hdd => ?_
  have ex := Ext.new (K := X.K) (ρ := ρ1) (n := S1.length) (o := .xd [(f, v)]) hdd
  exact st.en.ex _ σ S1 h1 ρ1 ς _ (.ref C) (some dd) (e1.trans ex) (w1.new hdd) ((st.er.ext e1).ext ex) ⟨C, f, dd, v, T0, rfl, rfl, upd_same, r1.ext ex⟩
theorem sd_tri {body suite : List Stmt} {b₀ : Stmt} {xn n : Str} {u : Value} {i : Nat} {okl : List (Nat × Str)} {mb ms : MSs} {np pos' : Pos} (hs : X.stack = X.env :: X.outer) (hf : X.env.frame = some X.env.locals) (hN : X.N.Nodup) (hi : X.N[i]? = some n) (hln : X.env.kindOf n = some .local) (hnm : Names X xn u) (tk : Takes X W)
    (hok : ∀ cn C f, T cn = some (C, some f) → ∃ b, PySem.W.exmOne X.K (.ref C) u = some b ∧ (b = true → okl.lookup cn = some f) ∧ (b = false → okl.lookup cn = none))
    (hb : ∀ (W' : WX) (pn : List (Addr × Obj)) (xe : Value → Shared → Prop), Takes (X.tr pn xe) W' → PassesOwn (model X.prog X.w) X.A X.env xe → PSs (X.tr pn xe) body (tSs T X.K W' c mb))
    (hsu : ∀ (a : Addr) (oe : Obj) (pn : List (Addr × Obj)) (cn : Nat) (C : Addr) (f : Str) (x : D) (dd : Addr), T cn = some (C, some f) → Zc (.ref C) (some dd) oe → (∃ vs, oe.data = .fields vs) → PSs (X.suite a ((a, oe) :: pn)) (b₀ :: suite) (tSs T X.K (fun _ _ _ _ => False) (withEx a dd f ⟨cn, x⟩ c) ms)) :
    PS X (.Try body [.ExceptHandler (some (.Name xn np)) (some n) (b₀ :: suite) pos'] [] [] pos) (tS T X.K W c (.tri mb i okl ms)) := by
  have hsu' : ∀ (a : Addr) (oe : Obj) (cls : Value) (d : Option Addr) (pn : List (Addr × Obj)), Zc cls d oe → (∃ vs, oe.data = .fields vs) → PSs (X.suite a ((a, oe) :: pn)) (b₀ :: suite) (fun D' ς H => ∃ cn C f x dd, cls = .ref C ∧ T cn = some (C, some f) ∧ d = some dd ∧ tSs T X.K (fun _ _ _ _ => False) (withEx a dd f ⟨cn, x⟩ c) ms D' ς H) := fun a oe cls d pn hz hd => by
    refine ⟨fun pins s ς H D' I q => ?_⟩
    obtain ⟨cn, C, f, x, dd, rfl, hT, rfl, q⟩ := q
    exact (hsu a oe pn cn C f x dd hT hz hd).run pins s ς H D' I q
  refine impS (ps_try_as hs hf hN hi hln hnm tk hb hsu') fun D' ς H ⟨ρ, σ, S, D, st, h⟩ => ?_
  simp only [wpS] at h
  refine ⟨ρ, σ, S, _, ?_, h⟩
  refine ⟨st.wd, st.er, ⟨st.en.nx, st.en.rt, st.en.bk, st.en.ct, fun x σ' S' hx ρ' ς' H' cl d e' w' r' rx => ?_⟩⟩
  obtain ⟨C, f, dd, v, hT, rfl, rfl, hxd, rd⟩ := rx
  obtain ⟨b, hb1, h1, h2⟩ := hok x.c C f hT
  refine ⟨b, hb1, fun eb a ha => ?_, fun eb => ?_⟩
  · dsimp only at hx
    rw [h1 eb] at hx
    refine ⟨x.c, C, f, x.f, dd, rfl, hT, rfl, ρ', _, S', ⟨fun σ2 S2 => D.nx (σ2.set i none) S2, D.rt, fun σ2 S2 => D.bk (σ2.set i none) S2, fun σ2 S2 => D.ct (σ2.set i none) S2, fun _ _ _ => False⟩, ⟨w', r'.set (.exc hxd rd), ⟨?_, ?_, ?_, ?_, fun _ _ _ z => z.elim⟩⟩, hx a dd⟩
    · exact fun σ2 S2 q ρ2 ς2 H2 e2 w2 r2 => st.en.nx _ S2 q ρ2 _ H2 (e'.trans e2) w2 (r2.wipe [i])
    · exact fun d S2 q ρ2 H2 v2 e2 w2 r2 => st.en.rt d S2 q ρ2 H2 v2 (e'.trans e2) w2 r2
    · exact fun σ2 S2 q ρ2 ς2 H2 e2 w2 r2 => st.en.bk _ S2 q ρ2 _ H2 (e'.trans e2) w2 (r2.wipe [i])
    · exact fun σ2 S2 q ρ2 ς2 H2 e2 w2 r2 => st.en.ct _ S2 q ρ2 _ H2 (e'.trans e2) w2 (r2.wipe [i])
  · dsimp only at hx
    rw [h2 eb] at hx
    exact st.en.ex x σ' S' hx ρ' ς' H' (.ref C) (some dd) e' w' r' ⟨C, f, dd, v, hT, rfl, rfl, hxd, rd⟩
omit hc in
/-- isinstance(n, C) of what is handled -/
theorem sd_xis {a dd C fI A : Addr} {oe : Obj} {pn : List (Addr × Obj)} {f nm cl : Str} {fs : List Str} {cn i : Nat} {x : D} {ns : List Nat} {p p1 p2 : Pos} (TX : XC X.K C fI fs) (hz : Zc (.ref C) (some dd) oe) (hd : ∃ vs, oe.data = .fields vs) (hgI : Gl X "isinstance") (hmI : X.mg "isinstance" = none)
    (hN : X.N[i]? = some nm) (hv : Vis X.env.scope nm) (hdb : (nm == ("__debug__" : Str)) = false) (hcd : (nm == ("__classdict__" : Str)) = false) (hgC : Gl X cl) (hmC : X.mg cl = some (.ref A)) (hdC : (cl == ("__debug__" : Str)) = false) (hk : PySem.W.kitOne X.K (.ref C) (.ref A) = some (decide (cn ∈ ns))) :
    PE (X.suite a ((a, oe) :: pn)) (.Call (.Name "isinstance" p) [.Name nm p1, .Name cl p2] [] pos) (tE T X.K (withEx a dd f ⟨cn, x⟩ c) W (.call exIs (.cons (.var i) (.cons (.cst (.tup (ns.map fun (n : Nat) => D.int (n : Int)))) .nil)))) := by
  have he : starEach [.Name nm p1, .Name cl p2] X.env = (false, eval (.Name nm p1) X.env) :: starEach [.Name cl p2] X.env := rfl
  have hv' : PE (X.suite a ((a, oe) :: pn)) (.Name nm p1) (tVar i) := pe_var hN hv hdb hcd
  have hc' : PE (X.suite a ((a, oe) :: pn)) (.Name cl p2) (tC (.ref A)) := pe_glob hgC hmC rfl hdC
  refine impE (pe_callB (call_isX TX hz hd) hgI hmI boot_isinstance (pa_cons hv' (pa_cons hc' pa_nil)) (by decide +kernel) (by decide +kernel) he rfl) fun ς H Q ⟨ρ, σ, S, E, s, h⟩ => ?_
  unfold wpE at h
  simp only [wpEs] at h
  obtain ⟨v, hσ, h⟩ := rvar h
  unfold wpE at h
  unfold withEx at h
  rw [if_pos rfl] at h
  obtain ⟨ns', e, h⟩ := h
  simp only [List.cons.injEq, D.tup.injEq, and_true] at e
  obtain ⟨rfl, rfl⟩ := e
  obtain ⟨u, hς, r⟩ := s.er.at_ i _ hσ
  cases r with
  | exc hx rx =>
    refine ⟨_, hς, ?_⟩
    refine ⟨.ref A, decide (cn ∈ ns), rfl, fun d e => ?_, .inl ⟨A, rfl, hk⟩, ?_⟩
    · cases e
      exact ⟨_, hx⟩
    · rw [inF_ints] at h
      exact Pst.here s.wd h (.bl _)
omit hc in
/-- n.f of what is handled -/
theorem sd_xfld {a dd C fI : Addr} {oe : Obj} {pn : List (Addr × Obj)} {f f' nm : Str} {cn i : Nat} {x : D} {p1 : Pos} (TX : XC X.K C fI [f]) (hz : Zc (.ref C) (some dd) oe) (hd : ∃ vs, oe.data = .fields vs)
    (hN : X.N[i]? = some nm) (hv : Vis X.env.scope nm) (hdb : (nm == ("__debug__" : Str)) = false) (hcd : (nm == ("__classdict__" : Str)) = false) :
    PE (X.suite a ((a, oe) :: pn)) (.Attribute (.Name nm p1) f' pos) (tE T X.K (withEx a dd f ⟨cn, x⟩ c) W (.call exFld (.cons (.var i) (.cons (.str f') .nil)))) := by
  refine ⟨fun pins s ς H Q I ⟨ρ, σ, S, E, st, h⟩ => ?_⟩
  unfold wpE at h
  simp only [wpEs] at h
  obtain ⟨v, hσ, h2⟩ := rvar h
  clear h
  unfold wpE at h2
  unfold withEx at h2
  rw [if_neg (by decide), if_pos rfl] at h2
  obtain ⟨e, h3⟩ := h2
  simp only [List.cons.injEq, D.str.injEq, and_true] at e
  obtain ⟨rfl, rfl⟩ := e
  obtain ⟨u, hς, r⟩ := st.er.at_ i _ hσ
  have hv' : PE (X.suite a ((a, oe) :: pn)) (.Name nm p1) (tVar i) := pe_var hN hv hdb hcd
  cases r with
  | exc hx rx =>
    refine (pe_xf (pos := pos) TX.xf (TX.noF _ List.mem_cons_self) hz hd hv').run pins s ς H Q I ?_
    exact ⟨_, hς, rfl, rfl, dd, _, _, rfl, hx, by simp, Pst.here st.wd h3 rx⟩
end
end MP
/-! MPTr: from the text's trees to the small trees, and that it is right. -/
namespace MP
open PySem PySem.Spec PyProof.Rows L2

/-- names of defs: number, how many parameters -/
structure GT where
  fs : List (Str × Nat × Nat)
  /-- what other names of the module hold -/
  cs : List (Str × D) := []
  /-- classes of one's own: number, fields -/
  cl : List (Str × Nat × List Str) := []
  /-- names that hold dicts that are walked -/
  dn : List Str := []
  /-- exceptions of one's own that are raised: number, field -/
  xc : List (Str × Nat × Str) := []
  /-- classes that are asked of what is handled: the numbers of those below -/
  xs : List (Str × List Nat) := []
  /-- names that hold dicts of nested tuples -/
  nn : List Str := []
  /-- defs whose last arguments may be left out: their defaults -/
  df : List (Str × List D) := []
def okOf (xc : List (Str × Nat × Str)) (ns : List Nat) : List (Nat × Str) := (xc.filter fun p => ns.contains p.2.1).map fun p => (p.2.1, p.2.2)
def fldsOf (G : GT) : List Str := G.cl.flatMap fun p => p.2.2
def slotOf (N : List Str) (x : Str) : Option Nat := N.findIdx? (· == x)
theorem slotOf_get {N : List Str} {x : Str} {i : Nat} (h : slotOf N x = some i) : N[i]? = some x := by
  unfold slotOf at h
  obtain ⟨hl, h1, _⟩ := List.findIdx?_eq_some_iff_getElem.mp h
  rw [List.getElem?_eq_getElem hl, beq_iff_eq.mp h1]
def isVis (sc : Scope) (x : Str) : Bool := match sc.names.lookup x with
  | some .local => true
  | some .cell => true
  | some .free => true
  | _ => false
def isLoc (sc : Scope) (x : Str) : Bool := match sc.names.lookup x with
  | some .local => true
  | _ => false
def isCell (sc : Scope) (x : Str) : Bool := match sc.names.lookup x with
  | some .cell => true
  | _ => false
def isGl (sc : Scope) (x : Str) : Bool := match sc.names.lookup x with
  | some .globalImplicit => true
  | _ => false
theorem isVis_ok {sc : Scope} {x : Str} (h : isVis sc x = true) : Vis sc x := by
  unfold isVis at h
  split at h
  · exact .inl ‹_›
  · exact .inr (.inl ‹_›)
  · exact .inr (.inr ‹_›)
  · cases h
theorem isLoc_ok {sc : Scope} {x : Str} (h : isLoc sc x = true) : sc.names.lookup x = some .local := by
  unfold isLoc at h
  split at h
  · assumption
  · cases h
theorem isCell_ok {sc : Scope} {x : Str} (h : isCell sc x = true) : sc.names.lookup x = some .cell := by
  unfold isCell at h
  split at h
  · assumption
  · cases h
theorem isGl_ok {sc : Scope} {x : Str} (h : isGl sc x = true) : sc.names.lookup x = some .globalImplicit := by
  unfold isGl at h
  split at h
  · assumption
  · cases h
def opb : Operator → Option Bop
  | .Add => some .add | .Sub => some .sub | .Mult => some .mul | .FloorDiv => some .fdiv | .Mod => some .mod | .Pow => some .pow | .LShift => some .shl | .RShift => some .shr | .BitAnd => some .band | .BitOr => some .bor | .BitXor => some .bxor
  | _ => none
theorem opb_ok {o : Operator} {b : Bop} (h : opb o = some b) : bopOf b = o := by
  cases o <;> simp only [opb, Option.some.injEq, reduceCtorEq] at h <;> (subst h; rfl)
/-- the second operand tells «is None», «is True», «is False» -/
def isNone : Expr → Bool
  | .Constant .none _ _ => true
  | .Constant (.bool _) _ _ => true
  | _ => false
def opc : CmpOp → Expr → Option Cop
  | .Eq, _ => some .eq | .NotEq, _ => some .ne | .Lt, _ => some .lt | .LtE, _ => some .le | .Gt, _ => some .gt | .GtE, _ => some .ge | .In, _ => some .isin | .NotIn, _ => some .notin
  | .Is, b => if isNone b = true then some .isN else none
  | .IsNot, b => if isNone b = true then some .notN else none
theorem opc_ok {o : CmpOp} {b : Expr} {x : Cop} (h : opc o b = some x) : copOf x = o := by
  cases o <;> simp only [opc, Option.some.injEq] at h <;> first | (subst h; rfl) | (split at h <;> first | (cases h; rfl) | cases h)
def notSet : Expr → Bool
  | .Set _ _ _ => false
  | _ => true
def notSlice : Expr → Bool
  | .Slice _ _ _ _ => false
  | _ => true
def notStar : Expr → Bool
  | .Starred _ _ => false
  | _ => true
def notIf : Expr → Bool
  | .IfExp _ _ _ _ => false
  | _ => true
def notComp : Expr → Bool
  | .ListComp _ _ _ _ => false
  | .SetComp _ _ _ _ => false
  | .DictComp _ _ _ _ _ => false
  | _ => true
/-- not a call of a name without arguments (super) -/
def plainBase : Expr → Bool
  | .Call (.Name _ _) [] [] _ => false
  | _ => true
theorem base_ok {o : Expr} {m : Str} {env : PySem.Env} {w : Sem Value} (h : plainBase o = true) : attributeBase o m env w = w := by
  unfold attributeBase
  split
  · simp [plainBase] at h
  · rfl
theorem star_cons {e : Expr} {es : List Expr} {env : PySem.Env} (h : notStar e = true) : starEach (e :: es) env = (false, eval e env) :: starEach es env := by
  cases e <;> first | rfl | (simp [notStar] at h)
theorem star_any {es : List Expr} {env : PySem.Env} {pos : Pos} (h : es.all notStar = true) : (backTo pos (starEach es env)).any (·.1) = false := by
  induction es with
  | nil => rfl
  | cons e r ih =>
    rw [List.all_cons, Bool.and_eq_true] at h
    rw [star_cons h.1]
    show ((false || (backTo pos (starEach r env)).any (·.1)) = false)
    rw [ih h.2]
    rfl
theorem fold_ok {e : Expr} {env : PySem.Env} (h : notSet e = true) : ∀ x, foldedSetIterable e env x = pure x := by
  intro x
  cases e <;> first | rfl | (simp [notSet] at h)
theorem mark_ok {e : Expr} {op : CmpOp} (h : notSet e = true) : behindInMarks op e = false := by
  cases e <;> first | rfl | (simp [notSet] at h)
theorem ix_ok {e : Expr} (h : notSlice e = true) : PlainIx e := by
  intro o i
  cases e <;> first | rfl | (simp [notSlice] at h)

/-! ### the translation -/
def trL (f : Expr → Option MX) : List Expr → Option MXs
  | [] => some .nil
  | e :: r => match f e, trL f r with
    | some x, some y => if notStar e = true then some (.cons x y) else none
    | _, _ => none
def trB (op : BoolOp) (f : Expr → Option MX) : List Expr → Option MX
  | [] => none
  | [e] => f e
  | e :: r => match f e, trB op f r with
    | some x, some y => some (match op with | .And => .and x y | .Or => .or x y)
    | _, _ => none
def allBl : List Bl := [.len, .abs, .max, .min, .sum, .any, .all, .int, .bool, .list, .tuple, .dict, .str, .sorted]
def bltOf (x : Str) : Option Bl := allBl.find? fun b => Str.ofString (bltName b) == x
theorem bltOf_ok {x : Str} {b : Bl} (h : bltOf x = some b) : x = Str.ofString (bltName b) := by
  have q := List.find?_some (p := fun b => Str.ofString (bltName b) == x) h
  exact (beq_iff_eq.mp q).symm
def tyOf (x : Str) : Option Ty :=
  if x = Str.ofString "int" then some .int else if x = Str.ofString "bool" then some .bool else if x = Str.ofString "str" then some .str else if x = Str.ofString "tuple" then some .tuple else if x = Str.ofString "list" then some .list else if x = Str.ofString "dict" then some .dict else none
theorem tyOf_ok {x : Str} {b : Ty} (h : tyOf x = some b) : x = Str.ofString (tyName b) := by
  unfold tyOf at h
  repeat' split at h
  all_goals first | (cases h; assumption) | cases h
/-- built-in names that the texts may use -/
def bltNames : List Str := ["len", "abs", "max", "min", "sum", "any", "all", "int", "bool", "list", "tuple", "str", "isinstance", "range", "dict", "enumerate", "sorted", "zip"].map Str.ofString
def mtOf (m : Str) (as : List Expr) : Option Mt :=
  match as with
  | [] => if m = Str.ofString "pop" then some .pop else if m = Str.ofString "bit_length" then some .bits else if m = Str.ofString "isalnum" then some .alnum else none
  | [_] => if m = Str.ofString "append" then some .append else if m = Str.ofString "pop" then some .popAt else if m = Str.ofString "extend" then some .extend else if m = Str.ofString "split" then some .split else none
  | [_, _] => if m = Str.ofString "insert" then some .insert else none
  | _ => none
def tgOk (N : List Str) (fn : Str → Bool) (sc : Scope) (x : Str) : Bool := isLoc sc x || (isCell sc x && fn x)
mutual
def trT (N : List Str) (fn : Str → Bool) (sc : Scope) : Nat → Expr → Option Tg
  | 0, _ => none
  | n + 1, e => match e with
    | .Name x _ => if tgOk N fn sc x = true then (slotOf N x).map .nm else none
    | .Tuple es _ _ => (trTs N fn sc n es).map .tp
    | _ => none
def trTs (N : List Str) (fn : Str → Bool) (sc : Scope) : Nat → List Expr → Option (List Tg)
  | 0, _ => none
  | n + 1, es => match es with
    | [] => some []
    | e :: r => match trT N fn sc n e, trTs N fn sc n r with
      | some x, some y => some (x :: y)
      | _, _ => none
end
mutual
def tgNames (N : List Str) : Nat → Expr → List (Str × Nat)
  | 0, _ => []
  | n + 1, e => match e with
    | .Name x _ => match slotOf N x with
      | some i => [(x, i)]
      | none => []
    | .Tuple es _ _ => tgNamess N n es
    | _ => []
def tgNamess (N : List Str) : Nat → List Expr → List (Str × Nat)
  | 0, _ => []
  | n + 1, es => match es with
    | [] => []
    | e :: r => tgNames N n e ++ tgNamess N n r
end
def isRange (sc : Scope) : Expr → Option (List Expr)
  | .Call (.Name f _) as [] _ => if f = Str.ofString "range" then (if isGl sc f = true then some as else none) else none
  | _ => none
def trOp (f : Expr → Option MX) (a : Expr) (op : Operator) (b : Expr) : Option MX := match opb op, f a, f b with
  | some o, some x, some y => some (.bin o x y)
  | _, _, _ => none
def trCmp1 (f : Expr → Option MX) (a : Expr) (op : CmpOp) (b : Expr) : Option MX := match opc op b, f a, f b with
  | some o, some x, some y => if notSet b = true then some (.cmp o x y) else none
  | _, _, _ => none
def trCmp2 (f : Expr → Option MX) (a : Expr) (op op' : CmpOp) (b d : Expr) : Option MX := match trCmp1 f a op b, trCmp1 f b op' d with
  | some (.cmp o x y), some (.cmp o' _ z) => some (.chain o o' x y z)
  | _, _ => none
def trIf (f : Expr → Option MX) (t a b : Expr) : Option MX := match f t, f a, f b with
  | some x, some y, some z => some (.ite x y z)
  | _, _, _ => none
def trO (f : Expr → Option MX) : Option Expr → Option MXo
  | none => some .no
  | some l => (f l).map .so
def trSl (f : Expr → Option MX) (a : Expr) (lo hi : Option Expr) : Option MX := match f a, trO f lo, trO f hi with
  | some x, some y, some z => some (.sl x y z)
  | _, _, _ => none
def trIx (f : Expr → Option MX) (a i : Expr) : Option MX := match f a, f i with
  | some x, some y => if notSlice i = true then some (.ix x y) else none
  | _, _ => none
def trIsi (sc : Scope) (f : Expr → Option MX) : List Expr → Option MX
  | [a, .Name t _] => match f a, tyOf t with
    | some x, some k => if (notStar a && isGl sc t) = true then some (.isi x k) else none
    | _, _ => none
  | _ => none
def trLrg (f : Expr → Option MX) : List Expr → Option MX
  | [u] => if notStar u = true then (f u).map fun x => .listRg (.cons x .nil) else none
  | [u, v] => match f u, f v with
    | some x, some y => if (notStar u && notStar v) = true then some (.listRg (.cons x (.cons y .nil))) else none
    | _, _ => none
  | _ => none
def lrg (sc : Scope) (g : Str) (as : List Expr) : Option (List Expr) := if g = Str.ofString "list" then (match as with
  | [a] => isRange sc a
  | _ => none) else none
def trTrg (f : Expr → Option MX) : List Expr → Option MX
  | [u] => if notStar u = true then (f u).map fun x => .tupRg (.cons x .nil) else none
  | [u, v] => match f u, f v with
    | some x, some y => if (notStar u && notStar v) = true then some (.tupRg (.cons x (.cons y .nil))) else none
    | _, _ => none
  | _ => none
def trg (sc : Scope) (g : Str) (as : List Expr) : Option (List Expr) := if g = Str.ofString "tuple" then (match as with
  | [a] => isRange sc a
  | _ => none) else none
def trBlt (sc : Scope) (f : Expr → Option MX) (g : Str) (as : List Expr) : Option MX := match bltOf g with
  | some b => if as.isEmpty = true then none else (trL f as).map (.blt b)
  | none => none
def trDef (f : Expr → Option MX) (i np : Nat) (as : List Expr) : Option MX := match trL f as with
  | some xs => if (as.length == np) = true then some (.call i xs) else none
  | none => none
def trDefD (G : GT) (f : Expr → Option MX) (g : Str) (i np : Nat) (as : List Expr) : Option MX := match trDef f i np as with
  | some y => some y
  | none => match G.df.lookup g, trL f as with
    | some ds, some xs => if (as.length + ds.length == np && !as.isEmpty) = true then some (.call i (appX xs (csts ds))) else none
    | _, _ => none
/-- list(o.keys()) -/
def trKeys (sc : Scope) (f : Expr → Option MX) (g : Str) (as : List Expr) : Option MX := if g = Str.ofString "list" then (match as with
  | [.Call (.Attribute o m ap) [] [] kp] => if (m = Str.ofString "keys") then (if (plainBase o && ap.endLine == kp.line) = true then (f o).map .keysOf else none) else none
  | _ => none) else none
def trCall (G : GT) (sc : Scope) (f : Expr → Option MX) (g : Str) (as : List Expr) : Option MX :=
  if (isGl sc g && !(g == "__debug__")) = true then
    match G.fs.lookup g with
    | some (i, np) => trDefD G f g i np as
    | none => if g = Str.ofString "isinstance" then trIsi sc f as else match trKeys sc f g as with
      | some y => some y
      | none => match lrg sc g as with
      | some us => trLrg f us
      | none => match trg sc g as with
      | some us => trTrg f us
      | none => trBlt sc f g as
  else none
def trMeth (f : Expr → Option MX) (o : Expr) (m : Str) (ap : Pos) (as : List Expr) (pos : Pos) : Option MX := match mtOf m as, f o, trL f as with
  | some k, some x, some xs => if (plainBase o && ap.endLine == pos.line) = true then some (.meth k x xs) else none
  | _, _, _ => none
def trGet (f : Expr → Option MX) (o : Expr) (m : Str) (ap : Pos) (as : List Expr) (pos : Pos) : Option MX :=
  if m = Str.ofString "get" then match as with
    | [a] => match f o, f a with
      | some x, some y => if (plainBase o && ap.endLine == pos.line && notStar a) = true then some (.dget x y) else none
      | _, _ => none
    | [a, b] => match f o, f a, f b with
      | some x, some y, some z => if (plainBase o && ap.endLine == pos.line && (notStar a && notStar b)) = true then some (.dget2 x y z) else none
      | _, _, _ => none
    | _ => none
  else none
def trAt (f : Expr → Option MX) (o : Expr) (m : Str) (ap : Pos) (as : List Expr) (pos : Pos) : Option MX := match trMeth f o m ap as pos with
  | some y => some y
  | none => trGet f o m ap as pos
def isEnum (sc : Scope) : Expr → Option Expr
  | .Call (.Name f _) [a] [] _ => if f = Str.ofString "enumerate" then (if (isGl sc f && notStar a) = true then some a else none) else none
  | _ => none
def isZip (sc : Scope) : Expr → Option (Expr × Expr)
  | .Call (.Name f _) [a, b] [] _ => if f = Str.ofString "zip" then (if (isGl sc f && (notStar a && notStar b)) = true then some (a, b) else none) else none
  | _ => none
def isTup : Expr → Bool
  | .Tuple _ _ _ => true
  | _ => false
def trI (sc : Scope) (f : Expr → Option MX) (tg it : Expr) : Option MI :=
  match isEnum sc it with
  | some a => if isTup tg = true then (f a).map .enum else none
  | none => match isZip sc it with
  | some (a, b) => match f a, f b with
    | some x, some y => if isTup tg = true then some (.zip x y) else none
    | _, _ => none
  | none => match isRange sc it with
  | some [u] => if notStar u = true then (f u).map fun x => .rng (.cons x .nil) else none
  | some [u, v] => match f u, f v with
    | some x, some y => if (notStar u && notStar v) = true then some (.rng (.cons x (.cons y .nil))) else none
    | _, _ => none
  | some [u, v, w] => match f u, f v, f w with
    | some x, some y, some z => if (notStar u && (notStar v && notStar w)) = true then some (.rngD (.cons x (.cons y (.cons z .nil)))) else none
    | _, _, _ => none
  | some _ => none
  | none => if notSet it = true then (f it).map .seq else none
def trFs (f : Expr → Option MX) : List Expr → Option MXs
  | [] => some .nil
  | [c] => (f c).map fun x => .cons x .nil
  | _ => none
def trComp (N : List Str) (n : Nat) (sc cs : Scope) (f g : Expr → Option MX) (elt tg it : Expr) (ifs : List Expr) : Option MX :=
  match trT N (fun x => cs.names.lookup x == some .cell) (relS cs sc) n tg, trI sc f tg it, trFs g ifs, g elt with
  | some t, some i, some fs, some x => if (blkC N sc cs (tgNames N n tg) && (slots t).all (fun j => ((tgNames N n tg).map (·.2)).contains j)) = true then some (.comp ((tgNames N n tg).map (·.2)) t i fs x) else none
  | _, _, _, _ => none
/-- a comprehension over what a name holds: a list, or a dict -/
def orD (N : List Str) (nn : List Str) (sc : Scope) (it : Expr) (r : Option MX) : Option MX := match it, r with
  | .Name x _, some (.comp vs t i fs y) => if (isVis sc x && !(x == "__debug__") && !(x == "__classdict__")) = true then match slotOf N x with
      | some j => some (.orX (.comp vs t i fs y) (if nn.contains x = true then .compN vs t j fs y else .compD vs t j fs y))
      | none => some (.comp vs t i fs y)
    else some (.comp vs t i fs y)
  | _, r => r
def unOr : Option MX → Option MX
  | some (.orX a _) => some a
  | r => r
def trC : Const → Option MX
  | .int i => some (.int i)
  | .bool b => some (.bl b)
  | .none => some .non
  | .str x => some (.str x)
  | _ => none
def trV (N : List Str) (G : GT) (sc : Scope) (x : Str) : Option MX := if (isVis sc x && !(x == "__debug__") && !(x == "__classdict__")) = true then (slotOf N x).map .var else
  if (isGl sc x && !(x == "__debug__") && (G.fs.lookup x).isSome) = true then some (.fnv x) else
  if (isGl sc x && !(x == "__debug__")) = true then (G.cs.lookup x).map .cst else none
/-- the defs that take n things -/
def fnsOf (G : GT) (n : Nat) : List (Str × Nat) := (G.fs.filter fun g => g.2.2 == n).map fun g => (g.1, g.2.1)
/-- a call of what a name holds -/
def trCallV (N : List Str) (G : GT) (sc : Scope) (f : Expr → Option MX) (x : Str) (as : List Expr) : Option MX :=
  if (isVis sc x && !(x == "__debug__") && !(x == "__classdict__")) = true then match slotOf N x, trL f as with
    | some i, some xs => if as.isEmpty = true then none else some (.callv i (fnsOf G as.length) xs)
    | _, _ => none
  else none
/-- C(e, ..) -/
def trCls (G : GT) (sc : Scope) (f : Expr → Option MX) (g : Str) (as : List Expr) : Option MX := if (isGl sc g && !(g == "__debug__")) = true then
  match G.cl.lookup g with
  | some (c, fs) => if as.isEmpty = true then none else (trL f as).map (.make c fs)
  | none => none
  else none
def trFld (G : GT) (f : Expr → Option MX) (o : Expr) (m : Str) : Option MX := if (plainBase o && (fldsOf G).contains m) = true then (f o).map fun x => .fld x m else none
def trE (N : List Str) (G : GT) : Nat → Scope → Expr → Option MX
  | 0, _, _ => none
  | n + 1, sc, e => match e with
    | .Constant c _ _ => trC c
    | .Name x _ => trV N G sc x
    | .Tuple es _ _ => (trL (trE N G n sc) es).map .tup
    | .List es _ => (trL (trE N G n sc) es).map .lst
    | .Dict [] [] _ => some .dnew
    | .Dict [some a] [b] _ => match trE N G n sc a, trE N G n sc b with
      | some x, some y => some (if G.nn.isEmpty = true then .ddis1 x y else .orX (.ddis1 x y) (.ddisN x y))
      | _, _ => none
    | .BinOp a op b _ => trOp (trE N G n sc) a op b
    | .UnaryOp .USub a _ => (trE N G n sc a).map .neg
    | .UnaryOp .Not a _ => (trE N G n sc a).map .not
    | .BoolOp op vs _ => trB op (trE N G n sc) vs
    | .Compare a [op] [b] _ => trCmp1 (trE N G n sc) a op b
    | .Compare a [op, op'] [b, d] _ => trCmp2 (trE N G n sc) a op op' b d
    | .IfExp t a b _ => trIf (trE N G n sc) t a b
    | .Subscript a i _ => match i with
      | .Slice lo hi none _ => trSl (trE N G n sc) a lo hi
      | i => trIx (trE N G n sc) a i
    | .Call g as [] pos => match g with
      | .Name x _ => match trCallV N G sc (trE N G n sc) x as with
        | some y => some y
        | none => match trCls G sc (trE N G n sc) x as with
          | some y => some y
          | none => trCall G sc (trE N G n sc) x as
      | .Attribute o m ap => trAt (trE N G n sc) o m ap as pos
      | _ => none
    | .ListComp elt [⟨tg, it, ifs, 0⟩] cs _ => orD N G.nn sc it (trComp N n sc cs (trE N G n sc) (trE N G n (relS cs sc)) elt tg it ifs)
    | .Attribute o m _ => trFld G (trE N G n sc) o m
    | _ => none
/-! ### an except suite -/
def trXis (G : GT) (sc : Scope) (nm : Str) (i : Nat) (y cl : Str) : Option MX := if (y == nm && isGl sc "isinstance" && (isGl sc cl && !(cl == "__debug__"))) = true then
  (G.xs.lookup cl).map fun ns => .call exIs (.cons (.var i) (.cons (.cst (.tup (ns.map fun (n : Nat) => D.int (n : Int)))) .nil)) else none
def trXE (G : GT) (nm : Str) (i : Nat) : Nat → Scope → Expr → Option MX
  | 0, _, _ => none
  | n + 1, sc, e => match e with
    | .Constant c _ _ => trC c
    | .Tuple es _ _ => (trL (trXE G nm i n sc) es).map .tup
    | .Compare a [op] [b] _ => trCmp1 (trXE G nm i n sc) a op b
    | .BoolOp op vs _ => trB op (trXE G nm i n sc) vs
    | .UnaryOp .Not a _ => (trXE G nm i n sc a).map .not
    | .IfExp t a b _ => trIf (trXE G nm i n sc) t a b
    | .Call (.Name g _) [.Name y _, .Name cl _] [] _ => if g = Str.ofString "isinstance" then trXis G sc nm i y cl else none
    | .Attribute (.Name y _) f _ => if (y == nm) = true then some (.call exFld (.cons (.var i) (.cons (.str f) .nil))) else none
    | _ => none
mutual
def trXS (G : GT) (nm : Str) (i m : Nat) (sc : Scope) : Nat → Stmt → Option MS
  | 0, _ => none
  | n + 1, s => match s with
    | .If t a b _ => match trXE G nm i m sc t, trXSs G nm i m sc n a, trXSs G nm i m sc n b with
      | some x, some y, some z => some (.iff x y z)
      | _, _, _ => none
    | .Return (some e) _ => (trXE G nm i m sc e).map .ret
    | .Pass _ => some .pas
    | _ => none
def trXSs (G : GT) (nm : Str) (i m : Nat) (sc : Scope) : Nat → List Stmt → Option MSs
  | 0, _ => none
  | n + 1, ss => match ss with
    | [] => some .nil
    | s :: r => match trXS G nm i m sc n s, trXSs G nm i m sc n r with
      | some x, some y => some (.cons x y)
      | _, _ => none
end
end MP
/-! MPOk: the translation is right. -/
namespace MP
open PySem PySem.Spec PyProof.Rows L2

structure Gk (T : Tbl) (c : CallT) (G : GT) (k : Nat) (X : Cx) : Prop where
  tw : T.w = X.w
  cm : X.calm = true
  room : Room k X.A
  nd : X.N.Nodup
  fn : ∀ g i np, G.fs.lookup g = some (i, np) → ∃ fa fd ps, PySem.W.nsIn X.K mainGlobals g = some (some (.ref fa)) ∧ ps.length = np ∧ X.mg g = some (.ref fa) ∧ PySem.W.keepIn X.K (.ref fa) = true ∧ Binds X.K fd ps [] ∧ FnOk X.prog X.w X.K X.mg X.base (L2.CX X.prog X.w) k fa fd ps (spM T X.K c i ps.length)
  bl : ∀ x ∈ bltNames, X.mg x = none
  nu : (G.fs.map (·.1)).Nodup
  ct : ∀ x d, G.cs.lookup x = some d → ∃ (u : Value) (v : V), X.mg x = some u ∧ RelV v u ∧ ∀ ρ n H, RD X.K ρ n H d v
  cl : ∀ x cn fs, G.cl.lookup x = some (cn, fs) → ∃ (C fI : Addr) (fd : FuncData), T cn = some (C, none) ∧ X.mg x = some (.ref C) ∧ Mk X.K C fI ∧ Binds X.K fd ("self" :: fs) [] ∧ FnOk X.prog X.w X.K X.mg X.base (L2.CX X.prog X.w) 1 fI fd ("self" :: fs) (spNew C fs)
  tf : ∀ cn C, T cn = some (C, none) → Cls X.K C ∧ ∀ f ∈ fldsOf G, NoAttr X.K C f
  lv : ∀ S Q E, c exLev [] S Q E → 2 ≤ k ∧ Q .non S
  dv : ∀ g i np ds, G.fs.lookup g = some (i, np) → G.df.lookup g = some ds → ∃ (fa : Addr) (fd : FuncData) (ps : List Str) (dvs : List V) (us : List Value), ps.length = np ∧ X.mg g = some (.ref fa) ∧ PySem.W.keepIn X.K (.ref fa) = true ∧ FnOk X.prog X.w X.K X.mg X.base (L2.CX X.prog X.w) k fa fd ps (spM T X.K c i ps.length) ∧ (∀ ρ n H, RDs X.K ρ n H ds dvs) ∧ Vals dvs us ∧ Binds X.K fd ps us
  xk : ∀ x cn f, G.xc.lookup x = some (cn, f) → ∃ (C fI : Addr) (fd : FuncData), T cn = some (C, some f) ∧ X.mg x = some (.ref C) ∧ Binds X.K fd ["self", f] [] ∧ FnOk X.prog X.w X.K X.mg X.base (L2.CX X.prog X.w) 1 fI fd ["self", f] (spInit C f) ∧ XC X.K C fI [f]
  xa : ∀ cn C f, T cn = some (C, some f) → ∃ fI, XC X.K C fI [f]
  xq : ∀ x ns, G.xs.lookup x = some ns → ∃ A, X.mg x = some (.ref A) ∧ ∀ cn C f, T cn = some (C, some f) → PySem.W.kitOne X.K (.ref C) (.ref A) = some (decide (cn ∈ ns)) ∧ PySem.W.exmOne X.K (.ref C) (.ref A) = some (decide (cn ∈ ns)) ∧ (cn ∈ ns → (okOf G.xc ns).lookup cn = some f) ∧ (cn ∉ ns → (okOf G.xc ns).lookup cn = none)
/-- of names that stand once: a def that was picked is the name's -/
theorem fns_get {x : Str} {G : GT} (nd : (G.fs.map (·.1)).Nodup) {n i : Nat} (h : (fnsOf G n).lookup x = some i) : ∃ np, G.fs.lookup x = some (i, np) ∧ np = n := by
  unfold fnsOf at h
  have m : (x, i) ∈ (G.fs.filter fun g => g.2.2 == n).map fun g => (g.1, g.2.1) := by
    generalize ((G.fs.filter fun g => g.2.2 == n).map fun g => (g.1, g.2.1)) = l at h
    induction l with
    | nil => cases h
    | cons p r ih =>
      rw [List.lookup_cons] at h
      split at h
      · rename_i e
        have e1 := beq_iff_eq.mp e
        have e2 : p.2 = i := Option.some.inj h
        have e3 : p = (x, i) := by rw [e1, ← e2]
        rw [e3]
        exact List.mem_cons_self
      · exact List.mem_cons_of_mem _ (ih h)
  obtain ⟨⟨y, j, np⟩, hm, he⟩ := List.mem_map.mp m
  cases he
  rw [List.mem_filter] at hm
  refine ⟨np, ?_, by simpa using hm.2⟩
  have hm1 := hm.1
  clear hm h m
  generalize G.fs = fs at nd hm1 ⊢
  induction fs with
  | nil => cases hm1
  | cons p r ih =>
    rw [List.map_cons, List.nodup_cons] at nd
    rw [List.lookup_cons]
    rcases List.mem_cons.mp hm1 with q | q
    · rw [← q]; simp
    · have : (y == p.1) = false := by
        rw [beq_eq_false_iff_ne]
        rintro rfl
        exact nd.1 (List.mem_map.mpr ⟨_, q, rfl⟩)
      rw [this]
      exact ih nd.2 q
theorem Gk.hu {T : Tbl} {c : CallT} {G : GT} {k : Nat} {X : Cx} (g : Gk T c G k X) : X.A.units + 65 < cLine := by
  have := g.room.un
  omega
theorem Gk.blk {T : Tbl} {c : CallT} {G : GT} {k : Nat} {X : Cx} (g : Gk T c G k X) (s : Shared) (H : Hp) (scope : Scope) (cenv : PySem.Env) (fp : List Addr) : Gk T c G k (X.blk s H scope cenv fp) := ⟨g.tw, g.cm, g.room, g.nd, g.fn, g.bl, g.nu, g.ct, g.cl, g.tf, g.lv, g.dv, g.xk, g.xa, g.xq⟩

/-- an expression as a value and as a test -/
structure Bo (T : Tbl) (c : CallT) (W : WX) (X : Cx) (e : Expr) (x : MX) : Prop where
  v : PE X e (tE T X.K c W x)
  t : PT X e (tT T X.K c W x)

section
variable {T : Tbl} {c : CallT} {G : GT} {k : Nat} {X : Cx} {W : WX} {pos : Pos} {f : Expr → Option MX} (hc : CallMono c c)
include hc
theorem bo_of {e : Expr} {x : MX} (h : PE X e (tE T X.K c W x)) (he : ∀ whole, isTrue e X.env whole = (do let v ← whole; standAt e.pos; holding [v] (truthy v))) : Bo T c W X e x := ⟨h, sd_truth hc h he⟩
theorem iteT_ok {d a b : Expr} {xd xa xb : MX} (hd : PT X d (tT T X.K c W xd)) (ha : PT X a (tT T X.K c W xa)) (hb : PT X b (tT T X.K c W xb)) : PT X (.IfExp d a b pos) (tT T X.K c W (.ite xd xa xb)) := by
  refine ⟨fun pins s ς H Q I ⟨ρ, σ, S, E, st, h⟩ => ?_⟩
  unfold wpE at h
  refine PyProof.Rows.isTrue_IfExp (thn (hd.run pins s ς H (fun k H1 => ∃ ρ1 S1, St0 T X.K W ρ1 σ S1 E ς H1 ∧ Ext X.K ρ S.length H ρ1 S1.length H1 ∧ if k = true then wpE c xa E σ S1 (fun v S' => truK S' v fun k => PstB T X.K ρ S.length H Q k S') else wpE c xb E σ S1 (fun v S' => truK S' v fun k => PstB T X.K ρ S.length H Q k S')) I ?_) fun k s1 hk => ?_)
  · exact tT_of hc st h fun x S1 h1 => truK_mono h1 fun k q ρ1 H1 e1 w1 => ⟨ρ1, S1, st.next e1 w1, e1, q⟩
  · obtain ⟨H1, I1, ρ1, S1, st1, e1, q⟩ := hk
    cases k with
    | true => exact ha.run pins s1 ς H1 Q I1 (tT_of hc st1 q fun y S2 h3 => truK_mono h3 fun b q ρ2 H2 e2 w2 => q ρ2 H2 (e1.trans e2) w2)
    | false => exact hb.run pins s1 ς H1 Q I1 (tT_of hc st1 q fun y S2 h3 => truK_mono h3 fun b q ρ2 H2 e2 w2 => q ρ2 H2 (e1.trans e2) w2)
variable (ih : ∀ e x, f e = some x → Bo T c W X e x)
include ih
theorem trL_star : ∀ {es : List Expr} {xs : MXs}, trL f es = some xs → es.all notStar = true
  | [], _, _ => rfl
  | e :: r, xs, h => by
    unfold trL at h
    split at h
    · split at h
      · rw [List.all_cons, Bool.and_eq_true]
        exact ⟨‹_›, trL_star ‹_›⟩
      · cases h
    · cases h
theorem trL_ok : ∀ {es : List Expr} {xs : MXs}, trL f es = some xs → PA X es (tA T X.K c W xs)
  | [], xs, h => by
    simp only [trL, Option.some.injEq] at h
    subst h
    exact sd_nil hc
  | e :: r, xs, h => by
    unfold trL at h
    split at h
    · split at h
      · rename_i x y e1 e2 hs
        simp only [Option.some.injEq] at h
        subst h
        exact sd_cons hc (ih _ _ e1).v (trL_ok e2) (star_cons hs)
      · cases h
    · cases h
theorem trL_len : ∀ {es : List Expr} {xs : MXs}, trL f es = some xs → ∀ σ S E Q, wpEs c xs E σ S Q → wpEs c xs E σ S fun vs S' => vs.length = es.length ∧ Q vs S'
  | [], xs, h, σ, S, E, Q, q => by
    simp only [trL, Option.some.injEq] at h
    subst h
    simp only [wpEs] at *
    exact ⟨rfl, q⟩
  | e :: r, xs, h, σ, S, E, Q, q => by
    unfold trL at h
    split at h
    · split at h
      · rename_i x y e1 e2 hs
        simp only [Option.some.injEq] at h
        subst h
        simp only [wpEs] at *
        exact wpE_mono hc _ q (fun v S1 q1 => wpEs_mono hc _ (trL_len e2 _ _ _ _ q1) (fun vs S2 q2 => ⟨by rw [List.length_cons, List.length_cons, q2.1], q2.2⟩) fun _ _ z => z) fun _ _ z => z
      · cases h
    · cases h
theorem trB_ok {op : BoolOp} : ∀ {es : List Expr} {x : MX}, trB op f es = some x → PE X (.BoolOp op es pos) (tE T X.K c W x) ∧ PW X (.BoolOp op es pos) (tT T X.K c W x)
  | [], x, h => by cases h
  | [e], x, h => by
    have b := ih e x h
    refine ⟨pe_one b.v, ?_⟩
    cases op with
    | And => exact pw_and1 b.t
    | Or => exact pw_or1 b.t
  | e :: e2 :: r, x, h => by
    unfold trB at h
    split at h
    · rename_i y z h1 h2
      simp only [Option.some.injEq] at h
      subst h
      have b := ih _ _ h1
      obtain ⟨b1, b2⟩ := trB_ok h2
      cases op with
      | And => exact ⟨sd_and hc b.v b1, sd_andT hc b.t b2⟩
      | Or => exact ⟨sd_or hc b.v b1, sd_orT hc b.t b2⟩
    · cases h
theorem trOp_ok {a b : Expr} {op : Operator} {x : MX} (h : trOp f a op b = some x) : Bo T c W X (.BinOp a op b pos) x := by
  unfold trOp at h
  split at h
  · rename_i o y z h1 h2 h3
    cases h
    rw [← opb_ok h1]
    exact bo_of hc (sd_bin hc (ih _ _ h2).v (ih _ _ h3).v) fun _ => rfl
  · cases h
theorem trCmp1_ok (g : Gk T c G k X) {a b : Expr} {op : CmpOp} {x : MX} (h : trCmp1 f a op b = some x) : Bo T c W X (.Compare a [op] [b] pos) x := by
  unfold trCmp1 at h
  split at h
  · rename_i o y z h1 h2 h3
    split at h
    · cases h
      rename_i hs
      have hm : behindInMarks (copOf o) b = false := mark_ok hs
      rw [← opc_ok h1]
      exact ⟨sd_cmp hc g.tw g.hu hm (ih _ _ h2).v (ih _ _ h3).v, sd_cmpT hc g.tw g.hu hm (ih _ _ h2).v (ih _ _ h3).v⟩
    · cases h
  · cases h
theorem trCmp1_inv {a b : Expr} {op : CmpOp} {o : Cop} {x y : MX} (h : trCmp1 f a op b = some (.cmp o x y)) : copOf o = op ∧ f a = some x ∧ f b = some y ∧ notSet b = true := by
  unfold trCmp1 at h
  split at h
  · rename_i o y z h1 h2 h3
    split at h
    · cases h
      exact ⟨opc_ok h1, h2, h3, ‹_›⟩
    · cases h
  · cases h
theorem trCmp2_ok (g : Gk T c G k X) {a b d : Expr} {op op' : CmpOp} {x : MX} (h : trCmp2 f a op op' b d = some x) : Bo T c W X (.Compare a [op, op'] [b, d] pos) x := by
  unfold trCmp2 at h
  split at h
  · rename_i o y z o' w u h1 h2
    cases h
    obtain ⟨a1, a2, a3, a4⟩ := trCmp1_inv hc ih h1
    obtain ⟨b1, b2, b3, b4⟩ := trCmp1_inv hc ih h2
    have hm : lastMarks [copOf o, copOf o'] [b, d] = false := mark_ok b4
    rw [← a1, ← b1]
    exact ⟨sd_chain hc g.tw g.hu hm (ih _ _ a2).v (ih _ _ a3).v (ih _ _ b3).v, sd_chainT hc g.tw g.hu hm (ih _ _ a2).v (ih _ _ a3).v (ih _ _ b3).v⟩
  · cases h
theorem trIf_ok {t a b : Expr} {x : MX} (h : trIf f t a b = some x) : Bo T c W X (.IfExp t a b pos) x := by
  unfold trIf at h
  split at h
  · rename_i y z w h1 h2 h3
    cases h
    exact ⟨sd_ite hc (ih _ _ h1).t (ih _ _ h2).v (ih _ _ h3).v, iteT_ok hc (ih _ _ h1).t (ih _ _ h2).t (ih _ _ h3).t⟩
  · cases h
theorem trO_ok {o : Option Expr} {x : MXo} (h : trO f o = some x) : PO X o (tO T X.K c W x) := by
  cases o with
  | none => cases h; exact sd_no hc
  | some l =>
    obtain ⟨y, h1, rfl⟩ := Option.map_eq_some_iff.mp h
    exact sd_so hc (ih _ _ h1).v
theorem trSl_ok {a : Expr} {lo hi : Option Expr} {x : MX} {p2 : Pos} (h : trSl f a lo hi = some x) : Bo T c W X (.Subscript a (.Slice lo hi none p2) pos) x := by
  unfold trSl at h
  split at h
  · rename_i y z w h1 h2 h3
    cases h
    exact bo_of hc (sd_sl hc (ih _ _ h1).v (trO_ok hc ih h2) (trO_ok hc ih h3)) fun _ => rfl
  · cases h
theorem trIx_ok (g : Gk T c G k X) {a i : Expr} {x : MX} (h : trIx f a i = some x) : Bo T c W X (.Subscript a i pos) x := by
  unfold trIx at h
  split at h
  · rename_i y z h1 h2
    split at h
    · cases h
      exact bo_of hc (sd_ix hc g.tw g.hu (ix_ok ‹_›) (ih _ _ h1).v (ih _ _ h2).v) fun _ => rfl
    · cases h
  · cases h
theorem bl_mem {x : String} (h : Str.ofString x ∈ bltNames) (g : Gk T c G k X) : X.mg (Str.ofString x) = none := g.bl _ h
theorem blt_mem (b : Bl) : Str.ofString (bltName b) ∈ bltNames := by cases b <;> decide +kernel
theorem ty_mem (b : Ty) : Str.ofString (tyName b) ∈ bltNames := by cases b <;> decide +kernel
theorem trCall_ok (g : Gk T c G k X) (tk : Takes X W) {x : Str} {p : Pos} {as : List Expr} {y : MX} (h : trCall G X.env.scope f x as = some y) : Bo T c W X (.Call (.Name x p) as [] pos) y := by
  unfold trCall at h
  split at h
  · rename_i hx
    rw [Bool.and_eq_true, Bool.not_eq_true'] at hx
    have hg : Gl X x := isGl_ok hx.1
    split at h
    · rename_i i np hG
      unfold trDefD at h
      split at h
      · rename_i y1 hD
        cases h
        have h := hD
        unfold trDef at h
        split at h
        · rename_i xs hL
          split at h
          · rename_i hz
            cases h
            obtain ⟨fa, fd, ps, _, e1, e2, e3, e4, F⟩ := g.fn _ _ _ hG
            cases as with
            | nil =>
              have hp : ps = [] := List.eq_nil_of_length_eq_zero (by rw [e1]; exact (beq_iff_eq.mp hz).symm)
              subst hp
              simp only [trL, Option.some.injEq] at hL
              subst hL
              exact bo_of hc (sd_call0 F g.room hg e2 e3 e4 tk hx.2) fun _ => rfl
            | cons a r =>
              have st := trL_star hc ih hL
              rw [List.all_cons, Bool.and_eq_true] at st
              have hl : (a :: r).length = ps.length := by rw [e1]; exact beq_iff_eq.mp hz
              refine bo_of hc (sd_call hc F g.room hg e2 e3 e4 tk (fun σ S E Q q => ?_) (trL_ok hc ih hL) hx.2 (star_cons st.1) (star_any st.2)) fun _ => rfl
              rw [← hl]
              exact trL_len hc ih hL σ S E Q q
          · cases h
        · cases h
      · split at h
        · rename_i ds xs hds hL
          split at h
          · rename_i hz
            cases h
            rw [Bool.and_eq_true, Bool.not_eq_true'] at hz
            obtain ⟨fa, fd, ps, dvs, us, e1, e2, e3, F, rd, hv, hb⟩ := g.dv _ _ _ _ hG hds
            cases as with
            | nil => simp at hz
            | cons a r =>
              have st := trL_star hc ih hL
              rw [List.all_cons, Bool.and_eq_true] at st
              have hl : (a :: r).length + ds.length = ps.length := by rw [e1]; exact beq_iff_eq.mp hz.1
              refine bo_of hc (sd_callD hc F g.room hg e2 e3 rd hv hb tk (fun σ S E Q q => ?_) (trL_ok hc ih hL) hx.2 (star_cons st.1) (star_any st.2)) fun _ => rfl
              refine wpEs_mono hc _ (trL_len hc ih hL σ S E Q q) (fun vs S' q => ⟨by rw [q.1]; exact hl, q.2⟩) fun _ _ z => z
          · cases h
        · cases h
    · split at h
      · rename_i hi
        subst hi
        unfold trIsi at h
        split at h
        · rename_i a t p2
          split at h
          · rename_i y' kk h1 h2
            split at h
            · rename_i hs
              cases h
              rw [Bool.and_eq_true] at hs
              have e := tyOf_ok h2
              subst e
              exact bo_of hc (sd_isi hc hg (g.bl _ (by decide +kernel)) (isGl_ok hs.2) (g.bl _ (ty_mem hc ih kk)) (ih _ _ h1).v (star_cons hs.1)) fun _ => rfl
            · cases h
          · cases h
        · cases h
      · split at h
        · rename_i y' hk
          cases h
          unfold trKeys at hk
          split at hk
          · rename_i hx3
            subst hx3
            split at hk
            · split at hk
              · rename_i hm
                subst hm
                split at hk
                · rename_i hz
                  obtain ⟨z, h1, rfl⟩ := Option.map_eq_some_iff.mp hk
                  rw [Bool.and_eq_true] at hz
                  exact bo_of hc (sd_keysOf hc g.cm hg (g.bl _ (by decide +kernel)) (base_ok hz.1) hz.2 (ih _ _ h1).v) fun _ => rfl
                · cases hk
              · cases hk
            · cases hk
          · cases hk
        split at h
        · rename_i us hl
          unfold lrg at hl
          split at hl
          · rename_i hx2
            subst hx2
            split at hl
            · rename_i a
              unfold isRange at hl
              split at hl
              · rename_i f' p2 as' p3
                split at hl
                · rename_i hr
                  subst hr
                  split at hl
                  · rename_i hgr
                    cases hl
                    have mr : X.mg (Str.ofString "range") = none := g.bl _ (by decide +kernel)
                    have ml : X.mg (Str.ofString "list") = none := g.bl _ (by decide +kernel)
                    unfold trLrg at h
                    split at h
                    · split at h
                      · rename_i u hs
                        obtain ⟨z, h1, rfl⟩ := Option.map_eq_some_iff.mp h
                        exact bo_of hc (sd_lrg1 hc g.cm hg ml (isGl_ok hgr) mr (ih _ _ h1).v (star_cons hs)) fun _ => rfl
                      · cases h
                    · split at h
                      · split at h
                        · rename_i hs
                          cases h
                          rw [Bool.and_eq_true] at hs
                          exact bo_of hc (sd_lrg2 hc g.cm hg ml (isGl_ok hgr) mr (ih _ _ ‹_›).v (ih _ _ ‹_›).v (star_cons hs.1) (star_cons hs.2)) fun _ => rfl
                        · cases h
                      · cases h
                    · cases h
                  · cases hl
                · cases hl
              · cases hl
            · cases hl
          · cases hl
        split at h
        · rename_i us hl
          unfold trg at hl
          split at hl
          · rename_i hx2
            subst hx2
            split at hl
            · rename_i a
              unfold isRange at hl
              split at hl
              · rename_i f' p2 as' p3
                split at hl
                · rename_i hr
                  subst hr
                  split at hl
                  · rename_i hgr
                    cases hl
                    have mr : X.mg (Str.ofString "range") = none := g.bl _ (by decide +kernel)
                    have ml : X.mg (Str.ofString "tuple") = none := g.bl _ (by decide +kernel)
                    unfold trTrg at h
                    split at h
                    · split at h
                      · rename_i u hs
                        obtain ⟨z, h1, rfl⟩ := Option.map_eq_some_iff.mp h
                        exact bo_of hc (sd_trg1 hc g.cm hg ml (isGl_ok hgr) mr (ih _ _ h1).v (star_cons hs)) fun _ => rfl
                      · cases h
                    · split at h
                      · split at h
                        · rename_i hs
                          rw [Bool.and_eq_true] at hs
                          cases h
                          exact bo_of hc (sd_trg2 hc g.cm hg ml (isGl_ok hgr) mr (ih _ _ ‹_›).v (ih _ _ ‹_›).v (star_cons hs.1) (star_cons hs.2)) fun _ => rfl
                        · cases h
                      · cases h
                    · cases h
                  · cases hl
                · cases hl
              · cases hl
            · cases hl
          · cases hl
        · unfold trBlt at h
          split at h
          · rename_i b hb
            split at h
            · cases h
            · rename_i hne
              obtain ⟨xs, hL, rfl⟩ := Option.map_eq_some_iff.mp h
              have e := bltOf_ok hb
              subst e
              cases as with
              | nil => simp at hne
              | cons a r =>
                have st := trL_star hc ih hL
                rw [List.all_cons, Bool.and_eq_true] at st
                exact bo_of hc (sd_blt hc g.cm g.hu hg (g.bl _ (blt_mem hc ih b)) (trL_ok hc ih hL) (star_cons st.1) (star_any st.2)) fun _ => rfl
          · cases h
  · cases h
theorem trMeth_ok {o : Expr} {m : Str} {ap : Pos} {as : List Expr} {y : MX} (h : trMeth f o m ap as pos = some y) : Bo T c W X (.Call (.Attribute o m ap) as [] pos) y := by
  unfold trMeth at h
  split at h
  · rename_i kk x xs h1 h2 h3
    split at h
    · rename_i hz
      cases h
      rw [Bool.and_eq_true] at hz
      have hb : ∀ m, attributeBase o m X.env (eval o X.env) = eval o X.env := fun m => base_ok hz.1
      have b := (ih _ _ h2).v
      unfold mtOf at h1
      split at h1
      · simp only [trL, Option.some.injEq] at h3
        subst h3
        split at h1
        · cases h1
          rename_i hm
          subst hm
          exact bo_of hc (sd_pop hc (hb _) hz.2 b) fun _ => rfl
        · split at h1
          · cases h1
            rename_i hm
            subst hm
            exact bo_of hc (sd_bits hc (hb _) hz.2 b) fun _ => rfl
          · split at h1
            · cases h1
              rename_i hm
              subst hm
              exact bo_of hc (sd_alnum hc (hb _) hz.2 b) fun _ => rfl
            · cases h1
      · rename_i a
        simp only [trL] at h3
        split at h3
        · split at h3
          · rename_i x' y' e1 e2 hs
            simp only [Option.some.injEq] at e2 h3
            subst e2
            subst h3
            split at h1
            · cases h1
              rename_i hm
              subst hm
              exact bo_of hc (sd_append hc (hb _) hz.2 b (ih _ _ e1).v (star_cons hs)) fun _ => rfl
            · split at h1
              · cases h1
                rename_i hm
                subst hm
                exact bo_of hc (sd_popAt hc (hb _) hz.2 b (ih _ _ e1).v (star_cons hs)) fun _ => rfl
              · split at h1
                · cases h1
                  rename_i hm
                  subst hm
                  exact bo_of hc (sd_extend hc (hb _) hz.2 b (ih _ _ e1).v (star_cons hs)) fun _ => rfl
                · split at h1
                  · cases h1
                    rename_i hm
                    subst hm
                    exact bo_of hc (sd_split hc (hb _) hz.2 b (ih _ _ e1).v ((star_cons hs).trans rfl)) fun _ => rfl
                  · cases h1
          · cases h3
        · cases h3
      · rename_i a1 a2
        split at h1
        · cases h1
          rename_i hm
          subst hm
          simp only [trL] at h3
          split at h3
          · split at h3
            · rename_i x1 y1 e1 e2 hs
              cases h3
              split at e2
              · split at e2
                · rename_i x2 y2 e3 e4 hs2
                  simp only [Option.some.injEq] at e4
                  cases e2
                  subst e4
                  exact bo_of hc (sd_insert hc (hb _) hz.2 b (ih _ _ e1).v (ih _ _ e3).v (star_cons hs) (star_cons hs2)) fun _ => rfl
                · cases e2
              · cases e2
            · cases h3
          · cases h3
        · cases h1
      · cases h1
    · cases h
  · cases h
theorem trGet_ok (g : Gk T c G k X) {o : Expr} {m : Str} {ap : Pos} {as : List Expr} {y : MX} (h : trGet f o m ap as pos = some y) : Bo T c W X (.Call (.Attribute o m ap) as [] pos) y := by
  unfold trGet at h
  split at h
  · rename_i hm
    subst hm
    split at h
    · split at h
      · rename_i h1 h2
        split at h
        · rename_i hz
          cases h
          rw [Bool.and_eq_true, Bool.and_eq_true] at hz
          exact bo_of hc (sd_dget hc g.hu (base_ok hz.1.1) hz.1.2 (ih _ _ h1).v (ih _ _ h2).v ((star_cons hz.2).trans rfl)) fun _ => rfl
        · cases h
      · cases h
    · split at h
      · rename_i h1 h2 h3
        split at h
        · rename_i hz
          cases h
          rw [Bool.and_eq_true, Bool.and_eq_true, Bool.and_eq_true] at hz
          exact bo_of hc (sd_dget2 hc g.hu (base_ok hz.1.1) hz.1.2 (ih _ _ h1).v (ih _ _ h2).v (ih _ _ h3).v (by rw [star_cons hz.2.1, star_cons hz.2.2]; rfl)) fun _ => rfl
        · cases h
      · cases h
    · cases h
  · cases h
theorem trAt_ok (g : Gk T c G k X) {o : Expr} {m : Str} {ap : Pos} {as : List Expr} {y : MX} (h : trAt f o m ap as pos = some y) : Bo T c W X (.Call (.Attribute o m ap) as [] pos) y := by
  unfold trAt at h
  split at h
  · cases h
    exact trMeth_ok hc ih ‹_›
  · exact trGet_ok hc ih g h
theorem trCallV_ok (g : Gk T c G k X) (tk : Takes X W) {x : Str} {p : Pos} {as : List Expr} {y : MX} (h : trCallV X.N G X.env.scope f x as = some y) : Bo T c W X (.Call (.Name x p) as [] pos) y := by
  unfold trCallV at h
  split at h
  · rename_i hv
    rw [Bool.and_eq_true, Bool.and_eq_true, Bool.not_eq_true', Bool.not_eq_true'] at hv
    split at h
    · rename_i i xs hi hL
      split at h
      · cases h
      · rename_i hne
        cases h
        cases as with
        | nil => simp at hne
        | cons a r =>
          have st := trL_star hc ih hL
          rw [List.all_cons, Bool.and_eq_true] at st
          refine bo_of hc (sd_callv hc g.room (slotOf_get hi) (isVis_ok hv.1.1) hv.1.2 hv.2 (n := (a :: r).length) (fun gx j hj => ?_) tk (trL_len hc ih hL) (trL_ok hc ih hL) (star_cons st.1) (star_any st.2)) fun _ => rfl
          obtain ⟨np, hG, hn⟩ := fns_get g.nu hj
          obtain ⟨fa, fd, ps, e0, e1, e2, e3, e4, F⟩ := g.fn _ _ _ hG
          exact ⟨fa, fd, ps, e0, e3, e4, e1.trans hn, F⟩
    · cases h
  · cases h
theorem trCls_ok (g : Gk T c G k X) {x : Str} {p : Pos} {as : List Expr} {y : MX} (h : trCls G X.env.scope f x as = some y) : Bo T c W X (.Call (.Name x p) as [] pos) y := by
  unfold trCls at h
  split at h
  · rename_i hx
    rw [Bool.and_eq_true, Bool.not_eq_true'] at hx
    split at h
    · rename_i cn fs hG
      split at h
      · cases h
      · rename_i hne
        obtain ⟨xs, hL, rfl⟩ := Option.map_eq_some_iff.mp h
        obtain ⟨C, fI, fd, h1, h2, h3, h4, h5⟩ := g.cl _ _ _ hG
        cases as with
        | nil => simp at hne
        | cons a r =>
          have st := trL_star hc ih hL
          rw [List.all_cons, Bool.and_eq_true] at st
          exact bo_of hc (sd_make hc h3 h5 h1 g.room g.lv (isGl_ok hx.1) h2 h4 (trL_ok hc ih hL) hx.2 (star_cons st.1) (star_any st.2)) fun _ => rfl
    · cases h
  · cases h
theorem trFld_ok (g : Gk T c G k X) {o : Expr} {m : Str} {y : MX} (h : trFld G f o m = some y) : Bo T c W X (.Attribute o m pos) y := by
  unfold trFld at h
  split at h
  · rename_i hz
    rw [Bool.and_eq_true] at hz
    obtain ⟨x, hx, rfl⟩ := Option.map_eq_some_iff.mp h
    exact bo_of hc (sd_fld hc (fun cn C e => ⟨(g.tf _ _ e).1, (g.tf _ _ e).2 m (List.contains_iff_mem.mp hz.2)⟩) (base_ok hz.1) (ih _ _ hx).v) fun _ => rfl
  · cases h
theorem trI_ok (g : Gk T c G k X) {tg it : Expr} {y : MI} (h : trI X.env.scope f tg it = some y) : PI X tg it (tI T X.K c W y) ∧ notSet it = true := by
  unfold trI at h
  split at h
  · rename_i a ha
    unfold isEnum at ha
    split at ha
    · split at ha
      · rename_i he
        subst he
        split at ha
        · rename_i hz
          cases ha
          rw [Bool.and_eq_true] at hz
          split at h
          · rename_i ht
            obtain ⟨z, h1, rfl⟩ := Option.map_eq_some_iff.mp h
            cases tg <;> first | (cases ht; done) | skip
            exact ⟨sd_enum hc (isGl_ok hz.1) (g.bl _ (by decide +kernel)) (ih _ _ h1).v (star_cons hz.2), rfl⟩
          · cases h
        · cases ha
      · cases ha
    · cases ha
  split at h
  · rename_i a b ha
    unfold isZip at ha
    split at ha
    · split at ha
      · rename_i he
        subst he
        split at ha
        · rename_i hz
          cases ha
          rw [Bool.and_eq_true, Bool.and_eq_true] at hz
          split at h
          · split at h
            · rename_i ht
              cases h
              cases tg <;> first | (cases ht; done) | skip
              exact ⟨sd_zip hc (isGl_ok hz.1) (g.bl _ (by decide +kernel)) (ih _ _ ‹_›).v (ih _ _ ‹_›).v (star_cons hz.2.1) (star_cons hz.2.2), rfl⟩
            · cases h
          · cases h
        · cases ha
      · cases ha
    · cases ha
  have rg : ∀ {us : List Expr}, isRange X.env.scope it = some us → ∃ p pos, it = .Call (.Name (Str.ofString "range") p) us [] pos ∧ Gl X (Str.ofString "range") := fun {us} h => by
    unfold isRange at h
    split at h
    · split at h
      · rename_i hr
        subst hr
        split at h
        · cases h
          exact ⟨_, _, rfl, isGl_ok ‹_›⟩
        · cases h
      · cases h
    · cases h
  have mr : X.mg (Str.ofString "range") = none := g.bl _ (by decide +kernel)
  split at h
  · rename_i u hu
    obtain ⟨p, ps, rfl, hg⟩ := rg hu
    split at h
    · rename_i hs
      obtain ⟨z, h1, rfl⟩ := Option.map_eq_some_iff.mp h
      exact ⟨sd_rng1 hc hg mr (ih _ _ h1).v (star_cons hs), rfl⟩
    · cases h
  · rename_i u v hu
    obtain ⟨p, ps, rfl, hg⟩ := rg hu
    split at h
    · split at h
      · rename_i hs
        cases h
        rw [Bool.and_eq_true] at hs
        exact ⟨sd_rng2 hc hg mr (ih _ _ ‹_›).v (ih _ _ ‹_›).v (by rw [star_cons hs.1, star_cons hs.2]; rfl) (star_cons hs.2), rfl⟩
      · cases h
    · cases h
  · rename_i u v w' hu
    obtain ⟨p, ps, rfl, hg⟩ := rg hu
    split at h
    · rename_i x y z h1 h2 h3
      split at h
      · rename_i hs
        cases h
        rw [Bool.and_eq_true, Bool.and_eq_true] at hs
        exact ⟨sd_rngD hc hg mr (ih _ _ h1).v (ih _ _ h2).v (ih _ _ h3).v (star_cons hs.1) (star_cons hs.2.1) (star_cons hs.2.2), rfl⟩
      · cases h
    · cases h
  · cases h
  · split at h
    · obtain ⟨z, h1, rfl⟩ := Option.map_eq_some_iff.mp h
      exact ⟨sd_seq hc (ih _ _ h1).v, ‹_›⟩
    · cases h
theorem trFs_ok {es : List Expr} {y : MXs} (h : trFs f es = some y) : PTs X es (tFs T X.K c W y) := by
  unfold trFs at h
  split at h
  · cases h
    exact sd_ifs0 hc
  · obtain ⟨z, h1, rfl⟩ := Option.map_eq_some_iff.mp h
    exact sd_ifs1 hc (ih _ _ h1).t
  · cases h
end

/-! ### targets -/
theorem tg_star {N : List Str} {fn : Str → Bool} {sc : Scope} {n : Nat} {e : Expr} {t : Tg} (h : trT N fn sc n e = some t) : notStar e = true := by
  cases e <;> first | rfl | (cases n <;> simp [trT] at h)
mutual
theorem trT_ok {K : PySem.W.Frag} {X : Cx} (cm : X.calm = true) (nd : X.N.Nodup) : ∀ (n : Nat) {e : Expr} {t : Tg}, trT X.N X.fn X.env.scope n e = some t → PG X e (gT X.K t)
  | 0, _, _, h => by simp [trT] at h
  | n + 1, e, t, h => by
    unfold trT at h
    split at h
    · rename_i x pos
      split at h
      · rename_i ok
        obtain ⟨i, hi, rfl⟩ := Option.map_eq_some_iff.mp h
        unfold tgOk at ok
        rw [Bool.or_eq_true, Bool.and_eq_true] at ok
        simp only [gT]
        rcases ok with ok | ⟨ok, hf⟩
        · exact pg_name nd (slotOf_get hi) (.inl (isLoc_ok ok)) (.inr (isLoc_ok ok))
        · exact pg_name nd (slotOf_get hi) (.inr (isCell_ok ok)) (.inl hf)
      · cases h
    · rename_i es k pos
      obtain ⟨ts, hts, rfl⟩ := Option.map_eq_some_iff.mp h
      simp only [gT]
      obtain ⟨h1, h2, h3⟩ := trTs_ok (K := K) cm nd n hts
      exact pg_tup cm h1 h2 h3
    · cases h
theorem trTs_ok {K : PySem.W.Frag} {X : Cx} (cm : X.calm = true) (nd : X.N.Nodup) : ∀ (n : Nat) {es : List Expr} {ts : List Tg}, trTs X.N X.fn X.env.scope n es = some ts → PGs X es (gTs X.K ts) ∧ (assignEach es X.env).length = ts.length ∧ (assignEach es X.env).findIdx? (·.1) = none
  | 0, _, _, h => by simp [trTs] at h
  | n + 1, es, ts, h => by
    unfold trTs at h
    split at h
    · cases h
      simp only [gTs]
      exact ⟨pgs_nil, rfl, rfl⟩
    · rename_i e r
      split at h
      · rename_i x y h1 h2
        cases h
        have a := trT_ok (K := K) cm nd n h1
        obtain ⟨b1, b2, b3⟩ := trTs_ok (K := K) cm nd n h2
        have hs := tg_star h1
        have as : assignEach (e :: r) X.env = (false, assign e X.env) :: assignEach r X.env := by
          cases e <;> first | rfl | (simp [notStar] at hs)
        simp only [gTs]
        refine ⟨pgs_cons a b1 (by rw [as]; rfl), by rw [as, List.length_cons, List.length_cons, b2], ?_⟩
        rw [as, List.findIdx?_cons, b3]
        rfl
      · cases h
end

/-- a comprehension's parts -/
structure LcOk (T : Tbl) (c : CallT) (W : WX) (X : Cx) (cs : Scope) (elt tg it : Expr) (ifs : List Expr) (own : List (Str × Nat)) (t : Tg) (i : MI) (fs : MXs) (y : MX) : Prop where
  hi : PI X tg it (tI T X.K c W i)
  ok : BlkOk X.N X.env.scope cs own
  sl : ∀ j ∈ slots t, j ∈ own.map (·.2)
  hg : ∀ (s : Shared) (H : Hp) (C : Addr) (cl : List (Str × Addr)) (fp : List Addr), PG (X.blk s H cs (compEnvC cs cl C X.env) fp) tg (gT X.K t)
  ht : ∀ (s : Shared) (H : Hp) (C : Addr) (cl : List (Str × Addr)) (fp : List Addr), PTs (X.blk s H cs (compEnvC cs cl C X.env) fp) ifs (tFs T X.K c (fun _ _ _ _ => False) fs)
  he : ∀ (s : Shared) (H : Hp) (C : Addr) (cl : List (Str × Addr)) (fp : List Addr), PE (X.blk s H cs (compEnvC cs cl C X.env) fp) elt (tE T X.K c (fun _ _ _ _ => False) y)
  hs : ∀ x, foldedSetIterable it X.env x = pure x
theorem LcOk.pe {T : Tbl} {c : CallT} {W : WX} {X : Cx} {cs : Scope} {elt tg it : Expr} {ifs : List Expr} {own : List (Str × Nat)} {t : Tg} {i : MI} {fs : MXs} {y : MX} {pos : Pos} (hc : CallMono c c) (cm : X.calm = true) (nd : X.N.Nodup) (l : LcOk T c W X cs elt tg it ifs own t i fs y) :
    PE X (.ListComp elt [⟨tg, it, ifs, 0⟩] cs pos) (tE T X.K c W (.comp (own.map (·.2)) t i fs y)) := impE (pe_lc cm nd l.hi l.ok l.hg l.ht l.he l.hs) (lc_imp hc l.sl)

theorem LcOk.peD {T : Tbl} {c : CallT} {W : WX} {X : Cx} {cs : Scope} {elt tg : Expr} {ifs : List Expr} {own : List (Str × Nat)} {t : Tg} {i : MI} {fs : MXs} {y : MX} {pos p : Pos} {x : Str} {j : Nat} (hc : CallMono c c) (cm : X.calm = true) (nd : X.N.Nodup) (hN : X.N[j]? = some x) (hv : Vis X.env.scope x) (hd : (x == ("__debug__" : Str)) = false) (hcd : (x == ("__classdict__" : Str)) = false) (l : LcOk T c W X cs elt tg (.Name x p) ifs own t i fs y) :
    PE X (.ListComp elt [⟨tg, .Name x p, ifs, 0⟩] cs pos) (tE T X.K c W (.compD (own.map (·.2)) t j fs y)) := impE (pe_lock (pe_lc cm nd (pi_keys (pe_var hN hv hd hcd)) l.ok l.hg l.ht l.he l.hs)) (compD_imp hc l.sl)
theorem LcOk.peN {T : Tbl} {c : CallT} {W : WX} {X : Cx} {cs : Scope} {elt tg : Expr} {ifs : List Expr} {own : List (Str × Nat)} {t : Tg} {i : MI} {fs : MXs} {y : MX} {pos p : Pos} {x : Str} {j : Nat} (hc : CallMono c c) (tw : T.w = X.w) (cm : X.calm = true) (nd : X.N.Nodup) (hN : X.N[j]? = some x) (hv : Vis X.env.scope x) (hd : (x == ("__debug__" : Str)) = false) (hcd : (x == ("__classdict__" : Str)) = false) (l : LcOk T c W X cs elt tg (.Name x p) ifs own t i fs y) :
    PE X (.ListComp elt [⟨tg, .Name x p, ifs, 0⟩] cs pos) (tE T X.K c W (.compN (own.map (·.2)) t j fs y)) := impE (pe_lock (pe_lc cm nd (pi_keysN (pe_var hN hv hd hcd)) l.ok l.hg l.ht l.he l.hs)) (by rw [← tw]; exact compN_imp hc l.sl)
theorem pe_orX {T : Tbl} {c : CallT} {W : WX} {X : Cx} {e : Expr} {a b : MX} (ha : PE X e (tE T X.K c W a)) (hb : PE X e (tE T X.K c W b)) : PE X e (tE T X.K c W (.orX a b)) := ⟨fun pins s ς H Q I q => by
  obtain ⟨ρ, σ, S, E, st, h⟩ := q
  unfold wpE at h
  rcases h with h | h
  · exact ha.run pins s ς H Q I ⟨ρ, σ, S, E, st, h⟩
  · exact hb.run pins s ς H Q I ⟨ρ, σ, S, E, st, h⟩⟩
/-! ### all expressions -/
section
variable {T : Tbl} {c : CallT} {G : GT} {k : Nat} (hc : CallMono c c)
include hc
theorem trComp_inv {n : Nat} (ih : ∀ {X : Cx} {W : WX} (g : Gk T c G k X) (tk : Takes X W) (e : Expr) (x : MX), trE X.N G n X.env.scope e = some x → Bo T c W X e x) {X : Cx} {W : WX} (g : Gk T c G k X) (tk : Takes X W) {cs : Scope} {elt tg it : Expr} {ifs : List Expr} {x : MX}
    (h : trComp X.N n X.env.scope cs (trE X.N G n X.env.scope) (trE X.N G n (relS cs X.env.scope)) elt tg it ifs = some x) : ∃ own t i fs y, x = .comp (own.map (·.2)) t i fs y ∧ LcOk T c W X cs elt tg it ifs own t i fs y := by
  unfold trComp at h
  split at h
  · rename_i t i fs y h1 h2 h3 h4
    split at h
    · rename_i ok
      cases h
      rw [Bool.and_eq_true, List.all_eq_true] at ok
      obtain ⟨hI, hns⟩ := trI_ok hc (fun e x h => ih g tk e x h) g (tg := tg) h2
      have ihb : ∀ (s : Shared) (H : Hp) (C : Addr) (cl : List (Str × Addr)) (fp : List Addr) (e : Expr) (x : MX), trE X.N G n (relS cs X.env.scope) e = some x → Bo T c (fun _ _ _ _ => False) (X.blk s H cs (compEnvC cs cl C X.env) fp) e x :=
        fun s H C cl fp e x hx => ih (g.blk s H cs (compEnvC cs cl C X.env) fp) takes0 e x hx
      refine ⟨_, t, i, fs, y, rfl, hI, blkOk_by ok.1, fun j hj => ?_, fun s H C cl fp => ?_, fun s H C cl fp => ?_, fun s H C cl fp => ?_, fold_ok hns⟩
      · have := ok.2 j hj
        simpa using this
      · exact trT_ok (K := X.K) (X := X.blk s H cs (compEnvC cs cl C X.env) fp) g.cm g.nd n h1
      · exact trFs_ok hc (fun e x hx => ihb s H C cl fp e x hx) h3
      · exact (ihb s H C cl fp elt y h4).v
    · cases h
  · cases h
theorem trE_ok : ∀ (n : Nat) {X : Cx} {W : WX} (g : Gk T c G k X) (tk : Takes X W) (e : Expr) (x : MX), trE X.N G n X.env.scope e = some x → Bo T c W X e x
  | 0, X, W, g, tk, e, x, h => by simp [trE] at h
  | n + 1, X, W, g, tk, e, x, h => by
    have ih : ∀ e x, trE X.N G n X.env.scope e = some x → Bo T c W X e x := fun e x h => trE_ok n g tk e x h
    unfold trE at h
    split at h
    · rename_i cc j pos
      cases cc <;> simp only [trC, Option.some.injEq, reduceCtorEq] at h
      · subst h; exact bo_of hc sd_non fun _ => rfl
      · subst h; exact bo_of hc sd_bl fun _ => rfl
      · subst h; exact bo_of hc sd_int fun _ => rfl
      · subst h; exact bo_of hc sd_str fun _ => rfl
    · rename_i y pos
      unfold trV at h
      split at h
      · rename_i hv
        obtain ⟨i, hi, rfl⟩ := Option.map_eq_some_iff.mp h
        rw [Bool.and_eq_true, Bool.and_eq_true, Bool.not_eq_true', Bool.not_eq_true'] at hv
        exact bo_of hc (sd_var (slotOf_get hi) (isVis_ok hv.1.1) hv.1.2 hv.2) fun _ => rfl
      · split at h
        · rename_i hz
          cases h
          rw [Bool.and_eq_true, Bool.and_eq_true, Bool.not_eq_true'] at hz
          obtain ⟨⟨i, np⟩, hG⟩ := Option.isSome_iff_exists.mp hz.2
          obtain ⟨fa, fd, ps, e0, e1, e2, e3, e4, F⟩ := g.fn _ _ _ hG
          exact bo_of hc (sd_fnv (isGl_ok hz.1.1) e2 e0 hz.1.2) fun _ => rfl
        · split at h
          · rename_i hz
            obtain ⟨d, hd, rfl⟩ := Option.map_eq_some_iff.mp h
            rw [Bool.and_eq_true, Bool.not_eq_true'] at hz
            obtain ⟨u, v, e1, e2, e3⟩ := g.ct _ _ hd
            exact bo_of hc (sd_cst (isGl_ok hz.1) e1 e2 e3 hz.2) fun _ => rfl
          · cases h
    · obtain ⟨xs, h1, rfl⟩ := Option.map_eq_some_iff.mp h
      exact bo_of hc (sd_tup hc (trL_ok hc ih h1)) fun _ => rfl
    · obtain ⟨xs, h1, rfl⟩ := Option.map_eq_some_iff.mp h
      exact bo_of hc (sd_lst hc (trL_ok hc ih h1)) fun _ => rfl
    · cases h
      exact bo_of hc (sd_dnew hc) fun _ => rfl
    · split at h
      · cases h
        split
        · exact bo_of hc (sd_ddis1 hc (ih _ _ ‹_›).v (ih _ _ ‹_›).v) fun _ => rfl
        · exact bo_of hc (pe_orX (sd_ddis1 hc (ih _ _ ‹_›).v (ih _ _ ‹_›).v) (sd_ddisN hc g.tw g.hu (ih _ _ ‹_›).v (ih _ _ ‹_›).v)) fun _ => rfl
      · cases h
    · exact trOp_ok hc ih h
    · obtain ⟨y, h1, rfl⟩ := Option.map_eq_some_iff.mp h
      exact bo_of hc (sd_neg hc (ih _ _ h1).v) fun _ => rfl
    · obtain ⟨y, h1, rfl⟩ := Option.map_eq_some_iff.mp h
      exact ⟨sd_not hc (ih _ _ h1).v, sd_notT hc (ih _ _ h1).t⟩
    · obtain ⟨a, b⟩ := trB_ok hc ih h
      exact ⟨a, b.pt⟩
    · exact trCmp1_ok hc ih g h
    · exact trCmp2_ok hc ih g h
    · exact trIf_ok hc ih h
    · split at h
      · exact trSl_ok hc ih h
      · exact trIx_ok hc ih g h
    · split at h
      · split at h
        · cases h
          exact trCallV_ok hc ih g tk ‹_›
        · split at h
          · cases h
            exact trCls_ok hc ih g ‹_›
          · exact trCall_ok hc ih g tk h
      · exact trAt_ok hc ih g h
      · cases h
    · rename_i elt tg it ifs cs pos
      unfold orD at h
      split at h
      · rename_i x p vs t i fs y hr
        obtain ⟨own, t', i', fs', y', e, l⟩ := trComp_inv hc (fun {X W} g tk => trE_ok n g tk) g tk hr
        cases e
        split at h
        · rename_i hv
          split at h
          · rename_i j hj
            cases h
            rw [Bool.and_eq_true, Bool.and_eq_true, Bool.not_eq_true', Bool.not_eq_true'] at hv
            split
            · exact bo_of hc (pe_orX (l.pe hc g.cm g.nd) (l.peN hc g.tw g.cm g.nd (slotOf_get hj) (isVis_ok hv.1.1) hv.1.2 hv.2)) fun _ => rfl
            · exact bo_of hc (pe_orX (l.pe hc g.cm g.nd) (l.peD hc g.cm g.nd (slotOf_get hj) (isVis_ok hv.1.1) hv.1.2 hv.2)) fun _ => rfl
          · cases h
            exact bo_of hc (l.pe hc g.cm g.nd) fun _ => rfl
        · cases h
          exact bo_of hc (l.pe hc g.cm g.nd) fun _ => rfl
      · obtain ⟨own, t, i, fs, y, rfl, l⟩ := trComp_inv hc (fun {X W} g tk => trE_ok n g tk) g tk h
        exact bo_of hc (l.pe hc g.cm g.nd) fun _ => rfl
    · exact trFld_ok hc ih g h
    · cases h
end
theorem Gk.tr {T : Tbl} {c : CallT} {G : GT} {k : Nat} {X : Cx} (g : Gk T c G k X) (pn : List (Addr × Obj)) (xe : Value → Shared → Prop) : Gk T c G k (X.tr pn xe) := ⟨g.tw, g.cm, g.room, g.nd, g.fn, g.bl, g.nu, g.ct, g.cl, g.tf, g.lv, g.dv, g.xk, g.xa, g.xq⟩
/-! ### an except suite -/
section
variable {T : Tbl} {c : CallT} {G : GT} {k : Nat} {X : Cx} {W : WX} (hc : CallMono c c) {a dd C fI : Addr} {oe : Obj} {pn : List (Addr × Obj)} {f nm : Str} {cn i : Nat} {x : D}
include hc
theorem trXE_ok (g : Gk T c G k X) (hT : T cn = some (C, some f)) (TX : XC X.K C fI [f]) (hz : Zc (.ref C) (some dd) oe) (hd : ∃ vs, oe.data = .fields vs) (hi : slotOf X.N nm = some i) (hv : (isVis X.env.scope nm && !(nm == "__debug__") && !(nm == "__classdict__")) = true) :
    ∀ (n : Nat) (e : Expr) (m : MX), trXE G nm i n X.env.scope e = some m → Bo T (withEx a dd f ⟨cn, x⟩ c) W (X.suite a ((a, oe) :: pn)) e m
  | 0, e, m, h => by simp [trXE] at h
  | n + 1, e, m, h => by
    have hc' : CallMono (withEx a dd f ⟨cn, x⟩ c) (withEx a dd f ⟨cn, x⟩ c) := withEx_mono hc
    have ih : ∀ e m, trXE G nm i n X.env.scope e = some m → Bo T (withEx a dd f ⟨cn, x⟩ c) W (X.suite a ((a, oe) :: pn)) e m := fun e m h => trXE_ok g hT TX hz hd hi hv n e m h
    have hu : (X.suite a ((a, oe) :: pn)).A.units + 65 < cLine := g.hu
    have tw' : T.w = (X.suite a ((a, oe) :: pn)).w := g.tw
    rw [Bool.and_eq_true, Bool.and_eq_true, Bool.not_eq_true', Bool.not_eq_true'] at hv
    unfold trXE at h
    split at h
    · rename_i cc j pos
      cases cc <;> simp only [trC, Option.some.injEq, reduceCtorEq] at h
      · subst h; exact bo_of hc' sd_non fun _ => rfl
      · subst h; exact bo_of hc' sd_bl fun _ => rfl
      · subst h; exact bo_of hc' sd_int fun _ => rfl
      · subst h; exact bo_of hc' sd_str fun _ => rfl
    · obtain ⟨xs, h1, rfl⟩ := Option.map_eq_some_iff.mp h
      exact bo_of hc' (sd_tup hc' (trL_ok hc' ih h1)) fun _ => rfl
    · unfold trCmp1 at h
      split at h
      · rename_i o y z h1 h2 h3
        split at h
        · cases h
          rename_i hs
          have hm : behindInMarks (copOf o) _ = false := mark_ok hs
          rw [← opc_ok h1]
          exact ⟨sd_cmp hc' tw' hu hm (ih _ _ h2).v (ih _ _ h3).v, sd_cmpT hc' tw' hu hm (ih _ _ h2).v (ih _ _ h3).v⟩
        · cases h
      · cases h
    · obtain ⟨a, b⟩ := trB_ok hc' ih h
      exact ⟨a, b.pt⟩
    · obtain ⟨y, h1, rfl⟩ := Option.map_eq_some_iff.mp h
      exact ⟨sd_not hc' (ih _ _ h1).v, sd_notT hc' (ih _ _ h1).t⟩
    · exact trIf_ok hc' ih h
    · split at h
      · rename_i hg
        subst hg
        unfold trXis at h
        split at h
        · rename_i hq
          rw [Bool.and_eq_true, Bool.and_eq_true, Bool.and_eq_true, Bool.not_eq_true'] at hq
          obtain ⟨ns, h1, rfl⟩ := Option.map_eq_some_iff.mp h
          obtain ⟨A, hA, hk⟩ := g.xq _ _ h1
          have ey := beq_iff_eq.mp hq.1.1
          subst ey
          exact bo_of hc' (sd_xis TX hz hd (isGl_ok hq.1.2) (g.bl _ (by decide +kernel)) (slotOf_get hi) (isVis_ok hv.1.1) hv.1.2 hv.2 (isGl_ok hq.2.1) hA hq.2.2 (hk cn C f hT).1) fun _ => rfl
        · cases h
      · cases h
    · split at h
      · rename_i hq
        cases h
        have ey := beq_iff_eq.mp hq
        subst ey
        exact bo_of hc' (sd_xfld TX hz hd (slotOf_get hi) (isVis_ok hv.1.1) hv.1.2 hv.2) fun _ => rfl
      · cases h
    · cases h
theorem trX_ok (g : Gk T c G k X) (hT : T cn = some (C, some f)) (TX : XC X.K C fI [f]) (hz : Zc (.ref C) (some dd) oe) (hd : ∃ vs, oe.data = .fields vs) (hi : slotOf X.N nm = some i) (hv : (isVis X.env.scope nm && !(nm == "__debug__") && !(nm == "__classdict__")) = true) (m : Nat) :
    ∀ n : Nat, (∀ (s : Stmt) (y : MS), trXS G nm i m X.env.scope n s = some y → PS (X.suite a ((a, oe) :: pn)) s (tS T X.K W (withEx a dd f ⟨cn, x⟩ c) y)) ∧ ∀ (s : List Stmt) (y : MSs), trXSs G nm i m X.env.scope n s = some y → PSs (X.suite a ((a, oe) :: pn)) s (tSs T X.K W (withEx a dd f ⟨cn, x⟩ c) y)
  | 0 => ⟨fun s y h => by simp [trXS] at h, fun s y h => by simp [trXSs] at h⟩
  | n + 1 => by
    have hc' : CallMono (withEx a dd f ⟨cn, x⟩ c) (withEx a dd f ⟨cn, x⟩ c) := withEx_mono hc
    have ie : ∀ e y, trXE G nm i m X.env.scope e = some y → Bo T (withEx a dd f ⟨cn, x⟩ c) W (X.suite a ((a, oe) :: pn)) e y := fun e y h => trXE_ok hc g hT TX hz hd hi hv m e y h
    obtain ⟨i1, i2⟩ := trX_ok g hT TX hz hd hi hv m n
    refine ⟨fun s y h => ?_, fun s y h => ?_⟩
    · unfold trXS at h
      split at h
      · split at h
        · rename_i u v w h1 h2 h3
          cases h
          exact sd_if hc' (ie _ _ h1).t (i2 _ _ h2) (i2 _ _ h3)
        · cases h
      · obtain ⟨u, h1, rfl⟩ := Option.map_eq_some_iff.mp h
        exact sd_ret hc' (ie _ _ h1).v
      · cases h
        exact sd_pas hc'
      · cases h
    · unfold trXSs at h
      split at h
      · cases h
        exact sd_ps0 hc'
      · split at h
        · rename_i u v h1 h2
          cases h
          exact sd_pss hc' (i1 _ _ h1) (i2 _ _ h2)
        · cases h
end
end MP
/-! MPProg: statements, defs, a whole text, a law. -/
namespace MP
open PySem PySem.Spec PyProof.Rows L2

/-! ### what the model asks of assignments -/
def isFun (sc : Scope) : Bool := match sc.kind with
  | .function => true
  | _ => false
theorem isFun_ok {sc : Scope} (h : isFun sc = true) : sc.kind = .function := by
  unfold isFun at h
  split at h
  · assumption
  · cases h
def ownIn (cs : Scope) (y : Str) : Bool := cs.names.any fun (n, k) => n == y && (k == .local || k == .cell)
def notName : Expr → Bool
  | .Name _ _ => false
  | _ => true
def notTup : Expr → Bool
  | .Tuple _ _ _ => false
  | _ => true
theorem sw_plain {e : Expr} {t : Option Expr} {l : Nat} {env : PySem.Env} (h : notComp e = true) : swapsWith e t l env = pure false := by
  cases e <;> first | rfl | (simp [notComp] at h)
theorem sw_other {e t : Expr} {l : Nat} {env : PySem.Env} (h : notName t = true) : swapsWithSole [t] e l env = pure false := by
  cases t <;> first | (simp [notName] at h; done) | (cases e <;> rfl)
theorem sw_cell {elt : Expr} {gs : List Comprehension} {cs : Scope} {p py : Pos} {y : Str} {l : Nat} {env : PySem.Env} (h : isLoc env.scope y = false) : swapsWithSole [.Name y py] (.ListComp elt gs cs p) l env = pure false := by
  have e : (env.kindOf y == some .local) = false := by
    unfold isLoc at h
    show (env.scope.names.lookup y == some .local) = false
    split at h
    · cases h
    · rename_i q
      cases z : env.scope.names.lookup y with
      | none => rfl
      | some k =>
        rw [z] at q
        cases k <;> first | rfl | exact absurd rfl q
  show (pure (env.blockKind == .function && env.kindOf y == some .local && py.line == p.line && !(cs.names.any fun (n, k) => n == y && (k == .local || k == .cell))) : Sem Bool) = pure false
  rw [e]
  simp
def notLst : Expr → Bool
  | .List _ _ => false
  | _ => true
theorem star_m {a : Expr} (h : notStar a = true) : (match a with | .Starred _ _ => true | _ => false) = false := by
  cases a <;> first | rfl | (simp [notStar] at h)
theorem st_none1 {e t : Expr} {env : PySem.Env} (h : notTup t = true) (h2 : notLst t = true) : swappedStores [t] e env = pure none := by
  cases t <;> first | rfl | (simp [notTup] at h; done) | (simp [notLst] at h2; done)
theorem st_none2 {e t : Expr} {env : PySem.Env} (h : notTup e = true) : swappedStores [t] e env = pure none := by
  cases e <;> first | (simp [notTup] at h; done) | (cases t <;> rfl)
theorem as_one {t : Expr} {env : PySem.Env} (h : notStar t = true) : (assignEach [t] env).map (·.2) = [assign t env] := by
  cases t <;> first | rfl | (simp [notStar] at h)
def notSl (e : Expr) : Bool := notSlice e
theorem asg_sub {o i : Expr} {tpos : Pos} {env : PySem.Env} (h : notSlice i = true) : ∀ v, assign (.Subscript o i tpos) env v = (do
      let ov ← holding [v] (eval o env)
      let iv ← holding [v, ov] (eval i env)
      standAt tpos
      holding [v, ov, iv] (setItem ov iv v)
      release [v, ov, iv] []) := by
  intro v
  cases i <;> first | rfl | (simp [notSlice] at h)

/-! ### statements -/
def trAsg (N : List Str) (fn : Str → Bool) (sc : Scope) (m : Nat) (f : Expr → Option MX) (t e : Expr) : Option MS :=
  match t with
  | .Subscript o i _ => match f o, f i, f e with
    | some x, some y, some z => if notSlice i = true then some (.asg (.ix x y) z) else none
    | _, _, _ => none
  | t => match trT N fn sc m t, f e with
    | some x, some z => if ((notTup t || notTup e) && (notName t || notComp e)) = true then some (.asg (.tg x) z) else none
    | _, _ => none
/-- y = [..], y a local on the same line; or y a name that is captured -/
def trSetLc (N : List Str) (sc : Scope) (f : Expr → Option MX) (y : Str) (py : Pos) (e : Expr) : Option MS :=
  match e with
  | .ListComp _ [⟨_, _, _, 0⟩] cs p => match slotOf N y, unOr (f e) with
    | some i, some z => if (isLoc sc y && py.line == p.line && !(ownIn cs y) && isFun sc) = true then some (.asg (.tg (.nm i)) z) else none
    | _, _ => none
  | _ => none
def trCellLc (N : List Str) (fn : Str → Bool) (sc : Scope) (f : Expr → Option MX) (y : Str) (e : Expr) : Option MS :=
  match e with
  | .ListComp _ _ _ _ => match slotOf N y, f e with
    | some i, some z => if (!(isLoc sc y) && isCell sc y && fn y) = true then some (.asg (.tg (.nm i)) z) else none
    | _, _ => none
  | _ => none
def trPar (N : List Str) (sc : Scope) (f : Expr → Option MX) (t e : Expr) : Option MS :=
  match t, e with
  | .Tuple [.Name x px, .Name y py] _ _, .Tuple [a, b] _ _ => match slotOf N x, slotOf N y, f a, f b with
    | some i, some j, some u, some v => if (isLoc sc x && isLoc sc y && isFun sc && py.line == px.line && !(x == y) && notStar a && notStar b && !(foldedForSure 8 a && foldedForSure 8 b) && !(constantsAlone 8 a && constantsAlone 8 b) && !(i == j)) = true then some (.asg (.tg (.tp [.nm i, .nm j])) (.tup (.cons u (.cons v .nil)))) else none
    | _, _, _, _ => none
  | _, _ => none
def trPar3 (N : List Str) (sc : Scope) (f : Expr → Option MX) (t e : Expr) : Option MS :=
  match t, e with
  | .Tuple [.Name x px, .Name y py, .Name z pz] _ _, .Tuple [a, b, d] _ _ => match slotOf N x, slotOf N y, slotOf N z with
    | some i, some j, some l => match f a, f b, f d with
      | some u, some v, some w => if (isLoc sc x && isLoc sc y && isLoc sc z && isFun sc && py.line == px.line && pz.line == px.line && !(x == y) && !(x == z) && !(y == z) && notStar a && notStar b && notStar d && !(foldedForSure 8 a && foldedForSure 8 b && foldedForSure 8 d) && !(constantsAlone 8 a && constantsAlone 8 b && constantsAlone 8 d) && !(i == j) && !(i == l) && !(j == l)) = true then some (.asg (.tg (.tp [.nm i, .nm j, .nm l])) (.tup (.cons u (.cons v (.cons w .nil))))) else none
      | _, _, _ => none
    | _, _, _ => none
  | _, _ => none
/-- values that are known beforehand: stored as they come -/
def trFold (N : List Str) (fn : Str → Bool) (sc : Scope) (m : Nat) (f : Expr → Option MX) (t e : Expr) : Option MS :=
  match t, e with
  | .Tuple ts k p, .Tuple vs k2 p2 => match trT N fn sc m (.Tuple ts k p), f (.Tuple vs k2 p2) with
    | some x, some z => if vs.all (foldedForSure 8) = true then some (.asg (.tg x) z) else none
    | _, _ => none
  | _, _ => none
theorem st_none3 {ts vs : List Expr} {k1 k2 : Nat} {p1 p2 : Pos} {env : PySem.Env} (h : vs.all (foldedForSure 8) = true) : swappedStores [.Tuple ts k1 p1] (.Tuple vs k2 p2) env = pure none := by
  unfold swappedStores
  simp only [h]
  repeat' split
  all_goals first | rfl | exact absurd trivial ‹¬True›
def orE {α : Type} : Option α → Option α → Option α
  | some x, _ => some x
  | none, y => y
def trSet (N : List Str) (fn : Str → Bool) (sc : Scope) (m : Nat) (f : Expr → Option MX) (t e : Expr) : Option MS :=
  match t with
  | .Name y py => orE (trSetLc N sc f y py e) (orE (trCellLc N fn sc f y e) (trAsg N fn sc m f (.Name y py) e))
  | t => orE (trPar N sc f t e) (orE (trAsg N fn sc m f t e) (orE (trFold N fn sc m f t e) (trPar3 N sc f t e)))
/-- a name that holds a dict that is walked -/
def dnOf (N dn : List Str) (sc : Scope) : Expr → Option Nat
  | .Name x _ => if (dn.contains x && (isVis sc x && !(x == "__debug__") && !(x == "__classdict__"))) = true then slotOf N x else none
  | _ => none
mutual
def trS (N : List Str) (fn : Str → Bool) (sc : Scope) (m : Nat) (G : GT) (f : Expr → Option MX) : Nat → Stmt → Option MS
  | 0, _ => none
  | n + 1, s => match s with
    | .Assign ts e _ => match ts with
      | [t] => trSet N fn sc m f t e
      | _ => none
    | .Expr e _ => match f e with
      | some x => if notComp e = true then some (.ex x) else none
      | none => none
    | .If t a b _ => match f t, trSs N fn sc m G f n a, trSs N fn sc m G f n b with
      | some x, some y, some z => some (.iff x y z)
      | _, _, _ => none
    | .While t a b _ => match b with
      | [] => match f t, trSs N fn sc m G f n a with
        | some x, some y => some (.whl x y)
        | _, _ => none
      | _ => none
    | .For t it a b _ => match b with
      | [] => match dnOf N G.dn sc it with
        | some j => match trT N fn sc m t, trSs N fn sc m G f n a with
          | some x, some z => some (.forD x j z)
          | _, _ => none
        | none => match trT N fn sc m t, trI sc f t it, trSs N fn sc m G f n a with
          | some x, some y, some z => some (.for_ x y z)
          | _, _, _ => none
      | _ => none
    | .Return o _ => match o with
      | some e => (f e).map .ret
      | none => some .ret0
    | .Break _ => some .brk
    | .Continue _ => some .cnt
    | .Pass _ => some .pas
    | .Raise ex cause _ => match cause with
      | none => match ex with
        | some (.Call (.Name x _) [e] [] _) => if (isGl sc x && !(x == "__debug__") && notStar e) = true then match G.xc.lookup x, f e with
            | some (cn, _), some y => some (.rais cn y)
            | _, _ => none
          else none
        | _ => none
      | _ => none
    | .Try b hs els fin _ => match hs with
      | [.ExceptHandler (some (.Name xn _)) (some n1) (b0 :: r) _] => match els with
        | [] => match fin with
          | [] => match slotOf N n1, G.xs.lookup xn, trSs N fn sc m G f n b with
            | some i, some ns, some mb => match trXSs G n1 i m sc n (b0 :: r) with
              | some ms => if (isLoc sc n1 && (isVis sc n1 && !(n1 == "__debug__") && !(n1 == "__classdict__")) && (isGl sc xn && !(xn == "__debug__"))) = true then some (.tri mb i (okOf G.xc ns) ms) else none
              | none => none
            | _, _, _ => none
          | _ => none
        | _ => none
      | _ => none
    | _ => none
def trSs (N : List Str) (fn : Str → Bool) (sc : Scope) (m : Nat) (G : GT) (f : Expr → Option MX) : Nat → List Stmt → Option MSs
  | 0, _ => none
  | n + 1, ss => match ss with
    | [] => some .nil
    | s :: r => match trS N fn sc m G f n s, trSs N fn sc m G f n r with
      | some x, some y => some (.cons x y)
      | _, _ => none
end
section
variable {T : Tbl} {c : CallT} {G : GT} {k : Nat} (hc : CallMono c c) {X : Cx} {W : WX} {m : Nat} {pos : Pos}
include hc
theorem setLc_ok (g : Gk T c G k X) (tk : Takes X W) {y : Str} {py : Pos} {e : Expr} {x : MS} (h : trSetLc X.N X.env.scope (trE X.N G m X.env.scope) y py e = some x) : PS X (.Assign [.Name y py] e pos) (tS T X.K W c x) := by
  unfold trSetLc at h
  split at h
  · rename_i elt tg it ifs cs p
    split at h
    · rename_i i z h1 h2
      split at h
      · rename_i hz
        cases h
        simp only [Bool.and_eq_true, Bool.not_eq_true'] at hz
        obtain ⟨⟨⟨z1, z2⟩, z3⟩, z4⟩ := hz
        cases m with
        | zero => simp [trE, unOr] at h2
        | succ m =>
          simp only [trE] at h2
          have h3 : ∃ r, trComp X.N m X.env.scope cs (trE X.N G m X.env.scope) (trE X.N G m (relS cs X.env.scope)) elt tg it ifs = some r ∧ z = r := by
            cases hr : trComp X.N m X.env.scope cs (trE X.N G m X.env.scope) (trE X.N G m (relS cs X.env.scope)) elt tg it ifs with
            | none =>
              rw [hr] at h2
              unfold orD at h2
              split at h2
              · rename_i e; cases e
              · cases h2
            | some r =>
              refine ⟨r, rfl, ?_⟩
              obtain ⟨own, t, it', fs, y', rfl, _⟩ := trComp_inv hc (fun {X W} g tk => trE_ok hc m g tk) g tk hr
              rw [hr] at h2
              unfold orD at h2
              split at h2
              · rename_i q _
                injection q with q
                rw [q]
                split at h2
                · split at h2
                  · exact (Option.some.inj h2).symm
                  · exact (Option.some.inj h2).symm
                · exact (Option.some.inj h2).symm
              · exact (Option.some.inj h2).symm
          obtain ⟨r, h4, rfl⟩ := h3
          obtain ⟨own, t, it', fs, y', rfl, l⟩ := trComp_inv hc (fun {X W} g tk => trE_ok hc m g tk) g tk h4
          refine impS (ps_setLc g.cm g.nd (slotOf_get h1) (isLoc_ok z1) (sw_true (isFun_ok z4) (isLoc_ok z1) z2 z3) l.hi l.ok l.hg l.ht l.he l.hs) fun D' ς H ⟨ρ, σ, S, D, s, h⟩ => ?_
          simp only [wpS] at h
          refine lc_imp hc l.sl ς H _ (tE_of hc s.st h fun x S1 ρ1 H1 v h1 e1 w1 r1 => ?_)
          simp only [wpLt, asg] at h1
          exact s.en.nx _ _ h1 _ _ _ e1 w1 ((s.er.ext e1).set r1)
      · cases h
    · cases h
  · cases h
theorem cellLc_ok (g : Gk T c G k X) (tk : Takes X W) {y : Str} {py : Pos} {e : Expr} {x : MS} (h : trCellLc X.N X.fn X.env.scope (trE X.N G m X.env.scope) y e = some x) : PS X (.Assign [.Name y py] e pos) (tS T X.K W c x) := by
  unfold trCellLc at h
  split at h
  · split at h
    · rename_i i z h1 h2
      split at h
      · rename_i hz
        cases h
        simp only [Bool.and_eq_true, Bool.not_eq_true'] at hz
        obtain ⟨⟨z1, z2⟩, z3⟩ := hz
        exact sd_asg hc (trE_ok hc m g tk _ _ h2).v (by simp only [gT]; exact pg_name g.nd (slotOf_get h1) (.inr (isCell_ok z2)) (.inl z3)) (sw_cell z1) (st_none1 rfl rfl) (as_one rfl)
      · cases h
    · cases h
  · cases h
theorem asg_all (g : Gk T c G k X) (tk : Takes X W) {t e : Expr} {x : MS} (h : trAsg X.N X.fn X.env.scope m (trE X.N G m X.env.scope) t e = some x) : PS X (.Assign [t] e pos) (tS T X.K W c x) := by
  unfold trAsg at h
  split at h
  · split at h
    · rename_i y z w h1 h2 h3
      split at h
      · cases h
        exact sd_setIx hc g.tw g.hu (trE_ok hc m g tk _ _ h3).v (trE_ok hc m g tk _ _ h1).v (trE_ok hc m g tk _ _ h2).v (asg_sub ‹_›) (sw_other rfl)
      · cases h
    · cases h
  · split at h
    · rename_i y z h1 h2
      split at h
      · rename_i hz
        cases h
        simp only [Bool.and_eq_true, Bool.or_eq_true] at hz
        have hst := tg_star h1
        have hnl : notLst t = true := by
          cases t <;> first | rfl | (cases m <;> simp [trT] at h1)
        refine sd_asg hc (trE_ok hc m g tk _ _ h2).v (trT_ok (K := X.K) g.cm g.nd m h1) ?_ ?_ (as_one hst)
        · rcases hz.2 with q | q
          · exact sw_other q
          · show swapsWith e (some t) pos.line X.env = pure false
            exact sw_plain q
        · rcases hz.1 with q | q
          · exact st_none1 q hnl
          · exact st_none2 q
      · cases h
    · cases h
theorem par_ok (g : Gk T c G k X) (tk : Takes X W) {t e : Expr} {x : MS} (h : trPar X.N X.env.scope (trE X.N G m X.env.scope) t e = some x) : PS X (.Assign [t] e pos) (tS T X.K W c x) := by
  unfold trPar at h
  split at h
  · rename_i x px y py kt pt a b k2 pt2
    split at h
    · rename_i i j u v h1 h2 h3 h4
      split at h
      · rename_i hz
        cases h
        simp only [Bool.and_eq_true, Bool.not_eq_true', beq_iff_eq, bne_iff_ne, ne_eq] at hz
        obtain ⟨⟨⟨⟨⟨⟨⟨⟨⟨z1, z2⟩, z3⟩, z4⟩, z5⟩, z6⟩, z7⟩, z8⟩, z9⟩, z10⟩ := hz
        have lx := isLoc_ok z1
        have ly := isLoc_ok z2
        have ij : i ≠ j := fun q => by subst q; simp at z10
        refine sd_par hc g.cm g.nd (slotOf_get h1) (slotOf_get h2) ij lx ly (trE_ok hc m g tk a u h3).v (trE_ok hc m g tk b v h4).v (star_cons z6) (star_cons z7) ?_
        have kx : X.env.kindOf x = some .local := lx
        have ky : X.env.kindOf y = some .local := ly
        have bk : X.env.blockKind = .function := by unfold Env.blockKind; rw [isFun_ok z3]; rfl
        have xy : (x == y) = false := z5
        have f8 : (foldedForSure 8 a && foldedForSure 8 b) = false := z8
        have c8 : (constantsAlone 8 a && constantsAlone 8 b) = false := z9
        have yx : (y == x) = false := by
          cases q : y == x with
          | false => rfl
          | true =>
            have := beq_iff_eq.mp q
            subst this
            simp at xy
        unfold swappedStores
        simp [kx, ky, bk, z4, f8, c8, Expr.pos, List.eraseDups_cons, xy, yx]
        intro hh
        exfalso
        rcases hh with hh | hh
        · clear h3 h4 f8 c8 z8 z9
          cases a <;> first | (cases hh; done) | (simp [notStar] at z6; done)
        · clear h3 h4 f8 c8 z8 z9
          cases b <;> first | (cases hh; done) | (simp [notStar] at z7; done)
      · cases h
    · cases h
  · cases h
theorem par3_ok (g : Gk T c G k X) (tk : Takes X W) {t e : Expr} {x : MS} (h : trPar3 X.N X.env.scope (trE X.N G m X.env.scope) t e = some x) : PS X (.Assign [t] e pos) (tS T X.K W c x) := by
  unfold trPar3 at h
  split at h
  · rename_i x px y py z pz kt pt a b d k2 pt2
    split at h
    · rename_i i j l h1 h2 h3
      split at h
      · rename_i u v w h4 h5 h6
        split at h
        · rename_i hz
          cases h
          simp only [Bool.and_eq_true, Bool.not_eq_true', beq_iff_eq, bne_iff_ne, ne_eq] at hz
          obtain ⟨⟨⟨⟨⟨⟨⟨⟨⟨⟨⟨⟨⟨⟨⟨⟨z1, z2⟩, z3⟩, z4⟩, z5⟩, z6⟩, z7⟩, z8⟩, z9⟩, z10⟩, z11⟩, z12⟩, z13⟩, z14⟩, z15⟩, z16⟩, z17⟩ := hz
          have lx := isLoc_ok z1
          have ly := isLoc_ok z2
          have lz := isLoc_ok z3
          have ij : i ≠ j := fun q => by subst q; simp at z15
          have il : i ≠ l := fun q => by subst q; simp at z16
          have jl : j ≠ l := fun q => by subst q; simp at z17
          refine sd_par3 hc g.cm g.nd (slotOf_get h1) (slotOf_get h2) (slotOf_get h3) ij il jl lx ly lz (trE_ok hc m g tk a u h4).v (trE_ok hc m g tk b v h5).v (trE_ok hc m g tk d w h6).v (star_cons z10) (star_cons z11) (star_cons z12) ?_
          have kx : X.env.kindOf x = some .local := lx
          have ky : X.env.kindOf y = some .local := ly
          have kz : X.env.kindOf z = some .local := lz
          have bk : X.env.blockKind = .function := by unfold Env.blockKind; rw [isFun_ok z4]; rfl
          have sy : ∀ {u v : Str}, (u == v) = false → (v == u) = false := fun {u v} q => by
            rw [beq_eq_false_iff_ne] at q ⊢
            exact Ne.symm q
          have xy : (x == y) = false := z7
          have xz : (x == z) = false := z8
          have yz : (y == z) = false := z9
          have yx := sy xy
          have zx := sy xz
          have zy := sy yz
          have f8 : (foldedForSure 8 a && foldedForSure 8 b && foldedForSure 8 d) = false := z13
          have c8 : (constantsAlone 8 a && constantsAlone 8 b && constantsAlone 8 d) = false := z14
          rw [Bool.and_assoc] at f8 c8
          unfold swappedStores
          simp [kx, ky, kz, bk, z5, z6, f8, c8, Expr.pos, List.eraseDups_cons, xy, yx, xz, zx, yz, zy]
          intro hh
          exfalso
          rcases hh with hh | hh | hh
          · clear h4 h5 h6 f8 c8 z13 z14
            cases a <;> first | (cases hh; done) | (simp [notStar] at z10; done)
          · clear h4 h5 h6 f8 c8 z13 z14
            cases b <;> first | (cases hh; done) | (simp [notStar] at z11; done)
          · clear h4 h5 h6 f8 c8 z13 z14
            cases d <;> first | (cases hh; done) | (simp [notStar] at z12; done)
        · cases h
      · cases h
    · cases h
  · cases h
theorem fold_all (g : Gk T c G k X) (tk : Takes X W) {t e : Expr} {x : MS} (h : trFold X.N X.fn X.env.scope m (trE X.N G m X.env.scope) t e = some x) : PS X (.Assign [t] e pos) (tS T X.K W c x) := by
  unfold trFold at h
  split at h
  · split at h
    · rename_i y z h1 h2
      split at h
      · rename_i hz
        cases h
        exact sd_asg hc (trE_ok hc m g tk _ _ h2).v (trT_ok (K := X.K) g.cm g.nd m h1) (sw_other rfl) (st_none3 hz) (as_one (tg_star h1))
      · cases h
    · cases h
  · cases h
theorem set_ok (g : Gk T c G k X) (tk : Takes X W) {t e : Expr} {x : MS} (h : trSet X.N X.fn X.env.scope m (trE X.N G m X.env.scope) t e = some x) : PS X (.Assign [t] e pos) (tS T X.K W c x) := by
  have o2 : ∀ {a b : Option MS}, orE a b = some x → a = some x ∨ b = some x := fun {a b} h => by
    cases a with
    | none => exact .inr h
    | some y => exact .inl h
  unfold trSet at h
  split at h
  · rcases o2 h with h | h
    · exact setLc_ok hc g tk h
    · rcases o2 h with h | h
      · exact cellLc_ok hc g tk h
      · exact asg_all hc g tk h
  · rcases o2 h with h | h
    · exact par_ok hc g tk h
    · rcases o2 h with h | h
      · exact asg_all hc g tk h
      · rcases o2 h with h | h
        · exact fold_all hc g tk h
        · exact par3_ok hc g tk h
end
mutual
theorem trS_ok {T : Tbl} {c : CallT} {G : GT} {k : Nat} (hc : CallMono c c) {X : Cx} {W : WX} {m : Nat} (g : Gk T c G k X) (tk : Takes X W) (hp : PassesOwn (model X.prog X.w) X.A X.env X.xe) (hst : X.stack = X.env :: X.outer) (hfr : X.env.frame = some X.env.locals) : ∀ (n : Nat) {s : Stmt} {x : MS}, trS X.N X.fn X.env.scope m G (trE X.N G m X.env.scope) n s = some x → PS X s (tS T X.K W c x)
  | 0, _, _, h => by simp [trS] at h
  | n + 1, s, x, h => by
    have ih : ∀ e x, trE X.N G m X.env.scope e = some x → Bo T c W X e x := fun e x h => trE_ok hc m g tk e x h
    unfold trS at h
    split at h
    · split at h
      · exact set_ok hc g tk h
      · cases h
    · split at h
      · split at h
        · cases h
          exact sd_ex hc (ih _ _ ‹_›).v (sw_plain ‹_›)
        · cases h
      · cases h
    · split at h
      · rename_i x y z h1 h2 h3
        cases h
        exact sd_if hc (ih _ _ h1).t (trSs_ok hc g tk hp hst hfr n h2) (trSs_ok hc g tk hp hst hfr n h3)
      · cases h
    · split at h
      · split at h
        · rename_i x y h1 h2
          cases h
          exact sd_whl hc hp (ih _ _ h1).t (trSs_ok hc g tk hp hst hfr n h2)
        · cases h
      · cases h
    · split at h
      · split at h
        · rename_i j hj
          split at h
          · rename_i x z h1 h3
            cases h
            unfold dnOf at hj
            split at hj
            · split at hj
              · rename_i hv
                rw [Bool.and_eq_true, Bool.and_eq_true, Bool.and_eq_true, Bool.not_eq_true', Bool.not_eq_true'] at hv
                exact sd_forD hc hp g.cm (slotOf_get hj) (isVis_ok hv.2.1.1) hv.2.1.2 hv.2.2 (trT_ok (K := X.K) g.cm g.nd m h1) (trSs_ok hc g tk hp hst hfr n h3)
              · cases hj
            · cases hj
          · cases h
        · split at h
          · rename_i x y z h1 h2 h3
            cases h
            obtain ⟨hI, hns⟩ := trI_ok hc ih g h2
            exact sd_for hc hp g.cm hI (trT_ok (K := X.K) g.cm g.nd m h1) (trSs_ok hc g tk hp hst hfr n h3) (fold_ok hns)
          · cases h
      · cases h
    · split at h
      · obtain ⟨y, h1, rfl⟩ := Option.map_eq_some_iff.mp h
        exact sd_ret hc (ih _ _ h1).v
      · cases h
        exact sd_ret0 hc
    · cases h
      exact sd_brk hc
    · cases h
      exact sd_cnt hc
    · cases h
      exact sd_pas hc
    · split at h
      · split at h
        · split at h
          · rename_i hv
            rw [Bool.and_eq_true, Bool.and_eq_true, Bool.not_eq_true'] at hv
            split at h
            · rename_i cn f y h1 h2
              cases h
              obtain ⟨C, fI, fd, hT, hm, hb, F, TX⟩ := g.xk _ _ _ h1
              exact sd_rais hc hT g.cm tk TX F hb g.room g.lv (isGl_ok hv.1.1) hm (ih _ _ h2).v hv.1.2 (star_cons hv.2)
            · cases h
          · cases h
        · cases h
      · cases h
    · split at h
      · split at h
        · split at h
          · split at h
            · rename_i i ns mb h1 h2 h3
              split at h
              · rename_i ms h4
                split at h
                · rename_i hv
                  cases h
                  obtain ⟨hv1, hv2⟩ := Bool.and_eq_true_iff.mp hv
                  obtain ⟨hv3, hv4⟩ := Bool.and_eq_true_iff.mp hv1
                  rw [Bool.and_eq_true, Bool.not_eq_true'] at hv2
                  obtain ⟨A, hA, hq⟩ := g.xq _ _ h2
                  refine sd_tri hc hst hfr g.nd (slotOf_get h1) (isLoc_ok hv3) ⟨isGl_ok hv2.1, hv2.2, .inl hA⟩ tk (fun cn C f hT => ?_) (fun W' pn xe tk' hp' => trSs_ok hc (g.tr pn xe) tk' hp' hst hfr n h3) fun a oe pn cn C f x dd hT hz hd => ?_
                  · obtain ⟨_, e2, e3, e4⟩ := hq cn C f hT
                    exact ⟨_, e2, fun z => e3 (of_decide_eq_true z), fun z => e4 (of_decide_eq_false z)⟩
                  · obtain ⟨fI, TX⟩ := g.xa cn C f hT
                    exact (trX_ok hc g hT TX hz hd h1 hv4 m n).2 _ _ h4
                · cases h
              · cases h
            · cases h
          · cases h
        · cases h
      · cases h
    · cases h
theorem trSs_ok {T : Tbl} {c : CallT} {G : GT} {k : Nat} (hc : CallMono c c) {X : Cx} {W : WX} {m : Nat} (g : Gk T c G k X) (tk : Takes X W) (hp : PassesOwn (model X.prog X.w) X.A X.env X.xe) (hst : X.stack = X.env :: X.outer) (hfr : X.env.frame = some X.env.locals) : ∀ (n : Nat) {s : List Stmt} {x : MSs}, trSs X.N X.fn X.env.scope m G (trE X.N G m X.env.scope) n s = some x → PSs X s (tSs T X.K W c x)
  | 0, _, _, h => by simp [trSs] at h
  | n + 1, s, x, h => by
    unfold trSs at h
    split at h
    · cases h
      exact sd_ps0 hc
    · split at h
      · rename_i x y h1 h2
        cases h
        exact sd_pss hc (trS_ok hc g tk hp hst hfr n h1) (trSs_ok hc g tk hp hst hfr n h2)
      · cases h
end

/-! ### a def -/
def paramsOf (s : Stmt) : List Str := (defArgs s).args.map (·.arg)
/-- the names of a def: parameters, then the other local names, then N's more (a comprehension's) -/
structure DefT where
  N : List Str
  ps : List Str
  fn : Fn
def fnScC (N ps : List Str) (sc : Scope) : Bool :=
  isFun sc && !sc.isCoroutine && !sc.isGenerator && decide N.Nodup && decide (N.take ps.length = ps) && (ps.all fun x => isLoc sc x || isCell sc x) && (sc.names.all fun y => match y.2 with
    | .free => false
    | _ => true)
theorem fnSc_ok {N ps : List Str} {sc : Scope} (h : fnScC N ps sc = true) : FnScope N ps sc := by
  unfold fnScC at h
  simp only [Bool.and_eq_true, Bool.not_eq_true', decide_eq_true_eq, List.all_eq_true] at h
  obtain ⟨⟨⟨⟨⟨⟨h1, h2⟩, h3⟩, h4⟩, h5⟩, h6⟩, h7⟩ := h
  refine ⟨isFun_ok h1, h2, h3, h4, h5, fun x hx => ?_, fun y hy e => ?_⟩
  · have := h6 x hx
    rw [Bool.or_eq_true] at this
    rcases this with q | q
    · exact .inl (isLoc_ok q)
    · exact .inr (isCell_ok q)
  · have := h7 y hy
    rw [e] at this
    cases this
/-- the text of a def and its small tree fit -/
def fits (G : GT) (st : Stmt) (d : DefT) : Prop :=
  fnScC d.N d.ps (defScope st) = true ∧ d.fn.n = d.N.length ∧ d.fn.ps = d.ps.length ∧ trSs d.N (fun _ => true) (defScope st) 40 G (trE d.N G 40 (defScope st)) 80 (defBody st) = some d.fn.body

/-! ### a whole text -/
structure DefE where
  x : Str
  st : Stmt
  d : DefT
/-- what the top has left of a def -/
structure Has (K : PySem.W.Frag) (mg : Str → Option Value) (e : DefE) (fa : Addr) (fd : FuncData) : Prop where
  f : ∃ dvs, FunD K e.x e.x (defArgs e.st) (defBody e.st) (defScope e.st) dvs [] fa fd
  g : mg e.x = some (.ref fa)
  ns : PySem.W.nsIn K mainGlobals e.x = some (some (.ref fa))
  b : Binds K fd e.d.ps []
theorem fun_d {K : PySem.W.Frag} {x qual : Str} {st : Stmt} {fa : Addr} {fd : FuncData} (F : Fun K x qual st fa fd) : ∃ dvs, FunD K x qual (defArgs st) (defBody st) (defScope st) dvs [] fa fd := by
  obtain ⟨oc, od, kV, doc, pm, an, cdv, ct, osl, rfl, lk, hcd⟩ := F.ex
  exact ⟨[], ⟨oc, od, _, kV, doc, pm, an, cdv, ct, osl, rfl, lk, hcd, .inl ⟨rfl, rfl⟩, .inl rfl⟩, F.kp⟩
/-- a def whose defaults stand in a tuple -/
theorem fund_mk {K : PySem.W.Frag} {x qual : Str} {st : Stmt} {f T : Addr} {o : Obj} {its : List Value} {n : Nat} {dvs : List V} {oc : Value} {od an : Option Addr} {osl : Array (Option Value)} {kV doc pm cdv ct : Value} (l : K.lookup f = some ⟨oc, od, .func (PySem.W.fnOf x qual (defArgs st) (defBody st) (defScope st) (.ref T) kV doc pm an cdv ct), osl⟩)
    (c : PySem.W.codeIn K cdv qual = true) (k : PySem.W.keepIn K (.ref f) = true) (hne : dvs ≠ []) (lT : K.lookup T = some o) (oT : o.data = .seq its.toArray n) (r : Vals dvs its) : FunD K x qual (defArgs st) (defBody st) (defScope st) dvs [] f (PySem.W.fnOf x qual (defArgs st) (defBody st) (defScope st) (.ref T) kV doc pm an cdv ct) :=
  ⟨⟨oc, od, _, kV, doc, pm, an, cdv, ct, osl, rfl, l, c, .inr ⟨hne, T, o, its, n, rfl, lT, oT, r⟩, .inl rfl⟩, k⟩
def tabOf (es : List DefE) (cs : List (Str × D) := []) (cl : List (Str × Nat × List Str) := []) (dn : List Str := []) (xc : List (Str × Nat × Str) := []) (xs : List (Str × List Nat) := []) (nn : List Str := []) (df : List (Str × List D) := []) : GT := ⟨es.zipIdx.map fun (e, i) => (e.x, i, e.d.ps.length), cs, cl, dn, xc, xs, nn, df⟩
def progOf (es : List DefE) : MP.Prog := es.map (·.d.fn)
theorem tab_get {es : List DefE} {cs : List (Str × D)} {cl : List (Str × Nat × List Str)} {dn : List Str} {xc : List (Str × Nat × Str)} {xs : List (Str × List Nat)} {nn : List Str} {df : List (Str × List D)} {g : Str} {i np : Nat} (h : (tabOf es cs cl dn xc xs nn df).fs.lookup g = some (i, np)) : ∃ e, es[i]? = some e ∧ e.x = g ∧ e.d.ps.length = np := by
  unfold tabOf at h
  have : (g, i, np) ∈ es.zipIdx.map fun (e, i) => (e.x, i, e.d.ps.length) := by
    have go : ∀ (l : List (Str × Nat × Nat)), l.lookup g = some (i, np) → (g, i, np) ∈ l := by
      intro l
      induction l with
      | nil => intro h; cases h
      | cons p r ih =>
        intro h
        rw [List.lookup_cons] at h
        split at h
        · rename_i e
          have h' : p.2 = (i, np) := Option.some.inj h
          have hp : p = (g, i, np) := by rw [beq_iff_eq.mp e, ← h']
          rw [hp]
          exact List.mem_cons_self
        · exact List.mem_cons_of_mem _ (ih h)
    exact go _ h
  obtain ⟨⟨e, j⟩, hm, he⟩ := List.mem_map.mp this
  cases he
  have := List.mem_zipIdx_iff_getElem?.mp hm
  exact ⟨e, this, rfl, rfl⟩
theorem Has.kp {K : PySem.W.Frag} {mg : Str → Option Value} {e : DefE} {fa : Addr} {fd : FuncData} (h : Has K mg e fa fd) : PySem.W.keepIn K (.ref fa) = true := by
  obtain ⟨_, F⟩ := h.f
  exact F.kp
theorem start_ER {K : PySem.W.Frag} {ρ : Nat → Addr} {n : Nat} {H : Hp} {N : List Str} {args : List D} {vs : List V} (r : RDs K ρ n H args vs) : ER K ρ n H (startE N.length args) (start N vs) := by
  unfold startE L2.start
  refine ⟨by simp [r.length], fun i d h => ?_⟩
  by_cases hi : i < args.length
  · rw [List.getElem?_append_left (by simpa using hi), List.getElem?_map] at h
    obtain ⟨x, hx, e⟩ := Option.map_eq_some_iff.mp h
    cases e
    obtain ⟨v, hv, rv⟩ := r.get hx
    exact ⟨v, by rw [List.getElem?_append_left (by rw [List.length_map, ← r.length]; exact hi), List.getElem?_map, hv]; rfl, rv⟩
  · rw [List.getElem?_append_right (by simpa using Nat.le_of_not_lt hi)] at h
    have := List.mem_of_getElem? h
    have := List.eq_of_mem_replicate this
    cases this
section
variable {P : Program} {w : World} {K : PySem.W.Frag} {mg : Str → Option Value} {base : Heap} {T : Tbl} {es : List DefE} {cs : List (Str × D)} {cl : List (Str × Nat × List Str)} {dn : List Str} {xc : List (Str × Nat × Str)} {xs : List (Str × List Nat)} {nn : List Str} {df : List (Str × List D)}
theorem lev_ok {es : List DefE} (hl : es.length ≤ 1000000) {k : Nat} (S : Sto) (Q : KD) (E : Ex → Sto → Prop) (h : callM (progOf es) k exLev [] S Q E) : 2 ≤ k ∧ Q .non S := by
  cases k with
  | zero => exact h.elim
  | succ k =>
    have e : (progOf es)[exLev]? = none := by
      rw [List.getElem?_eq_none_iff]
      unfold progOf exLev
      rw [List.length_map]
      omega
    simp only [callM, e] at h
    exact ⟨by omega, h.2.2.2⟩
theorem prog_ok (htw : T.w = w) (hs : ∀ e ∈ es, ∃ fa fd, Has K mg e fa fd) (hf : ∀ e ∈ es, fits (tabOf es cs cl dn xc xs nn df) e.st e.d) (hb : ∀ x ∈ bltNames, mg x = none) (hnu : ((tabOf es cs cl dn xc xs nn df).fs.map (·.1)).Nodup) (hcs : ∀ x d, cs.lookup x = some d → ∃ (u : Value) (v : V), mg x = some u ∧ RelV v u ∧ ∀ ρ n H, RD K ρ n H d v)
    (hcl : ∀ x cn fs, cl.lookup x = some (cn, fs) → ∃ (C fI : Addr) (fd : FuncData), T cn = some (C, none) ∧ mg x = some (.ref C) ∧ Mk K C fI ∧ Binds K fd ("self" :: fs) [] ∧ FnOk P w K mg base (L2.CX P w) 1 fI fd ("self" :: fs) (spNew C fs))
    (htf : ∀ cn C, T cn = some (C, none) → Cls K C ∧ ∀ f ∈ cl.flatMap (fun p => p.2.2), NoAttr K C f) (hlen : es.length ≤ 1000000)
    (hxk : ∀ x cn f, xc.lookup x = some (cn, f) → ∃ (C fI : Addr) (fd : FuncData), T cn = some (C, some f) ∧ mg x = some (.ref C) ∧ Binds K fd ["self", f] [] ∧ FnOk P w K mg base (L2.CX P w) 1 fI fd ["self", f] (spInit C f) ∧ XC K C fI [f])
    (hxa : ∀ cn C f, T cn = some (C, some f) → ∃ fI, XC K C fI [f])
    (hxq : ∀ x ns, xs.lookup x = some ns → ∃ A, mg x = some (.ref A) ∧ ∀ cn C f, T cn = some (C, some f) → PySem.W.kitOne K (.ref C) (.ref A) = some (decide (cn ∈ ns)) ∧ PySem.W.exmOne K (.ref C) (.ref A) = some (decide (cn ∈ ns)) ∧ (cn ∈ ns → (okOf xc ns).lookup cn = some f) ∧ (cn ∉ ns → (okOf xc ns).lookup cn = none))
    (hdf : ∀ x ds, df.lookup x = some ds → ∀ e ∈ es, e.x = x → ∃ fa fd, Has K mg e fa fd ∧ ∃ (dvs : List V) (us : List Value), (∀ ρ n H, RDs K ρ n H ds dvs) ∧ Vals dvs us ∧ Binds K fd e.d.ps us) :
    ∀ (k : Nat) (i : Nat) (e : DefE) (fa : Addr) (fd : FuncData), es[i]? = some e → Has K mg e fa fd → FnOk P w K mg base (L2.CX P w) k fa fd e.d.ps (spM T K (callM (progOf es) k) i e.d.ps.length)
  | 0, i, e, fa, fd, _, _ => ⟨fun vs H Q E h => by
      obtain ⟨ρ, S, args, E0, _, _, _, _, z⟩ := h
      exact z.elim, fun A outer s H args us vs Q E _ _ _ _ h => by
      obtain ⟨ρ, S, args, E0, _, _, _, _, z⟩ := h
      exact z.elim⟩
  | k + 1, i, e, fa, fd, hi, h => by
    obtain ⟨f1, f2, f3, f4⟩ := hf e (List.mem_of_getElem? hi)
    have S := fnSc_ok f1
    obtain ⟨dvs, hF⟩ := h.f
    refine hF.ok (CX := L2.CX P w) S (fun vs H Q E q => ?_) (fun cdv A outer s H vs Q E hr q => ?_)
    · obtain ⟨ρ, S0, args, E0, _, r, hl, _⟩ := q
      rw [← r.length]
      exact hl
    · obtain ⟨ρ, S0, args, E0, wd, r, hl, hx, q⟩ := q
      have g : Gk T (callM (progOf es) k) (tabOf es cs cl dn xc xs nn df) k (cxOf (L2.CX P w) P w K mg base e.d.N e.x (defScope e.st) fa cdv A outer s H E) := by
        refine ⟨htw, rfl, hr, S.nd, fun gx j np hG => ?_, hb, hnu, hcs, hcl, htf, lev_ok hlen, fun gx j np ds hG hds => ?_, hxk, hxa, hxq⟩
        rotate_left
        · obtain ⟨e', he, ex, en⟩ := tab_get hG
          obtain ⟨fa', fd', H', dvs, us, r1, r2, r3⟩ := hdf _ _ hds e' (List.mem_of_getElem? he) ex
          exact ⟨fa', fd', e'.d.ps, dvs, us, en, by rw [← ex]; exact H'.g, H'.kp, prog_ok htw hs hf hb hnu hcs hcl htf hlen hxk hxa hxq hdf k j e' fa' fd' he H', r1, r2, r3⟩
        obtain ⟨e', he, ex, en⟩ := tab_get hG
        obtain ⟨fa', fd', H'⟩ := hs e' (List.mem_of_getElem? he)
        exact ⟨fa', fd', e'.d.ps, by rw [← ex]; exact H'.ns, en, by rw [← ex]; exact H'.g, H'.kp, H'.b, prog_ok htw hs hf hb hnu hcs hcl htf hlen hxk hxa hxq hdf k j e' fa' fd' he H'⟩
      have tk : Takes (cxOf (L2.CX P w) P w K mg base e.d.N e.x (defScope e.st) fa cdv A outer s H E) (fun cl d _ H' => E cl d H') := takes_of rfl rfl rfl rfl
      refine ⟨_, trSs_ok (callM_mono (progOf es) k) g tk (passes_of rfl) rfl rfl 80 f4, ?_⟩
      have hp : (progOf es)[i]? = some e.d.fn := by
        unfold progOf
        rw [List.getElem?_map, hi]
        rfl
      simp only [callM, hp] at q
      have q2 := q.2
      rw [f2] at q2
      exact ⟨ρ, _, S0, ⟨_, _, fun _ _ => False, fun _ _ => False, fun x _ S' => E0 x S'⟩, ⟨wd, start_ER r, ⟨fun σ' S' (z : Pst T K ρ S0.length H Q .non S') ρ' ς' H' ex w' _ => z ρ' H' .non ex w' .non, fun d S' z => z, fun _ _ z => z.elim, fun _ _ z => z.elim, fun x σ' S' z ρ' ς' H' cl d ex w' _ rx => hx x S' z ρ' H' cl d ex w' rx⟩⟩, q2⟩
end

/-! ### names of the module -/
theorem lookup_mem {α : Type} {x : Str} {d : α} : ∀ {l : List (Str × α)}, l.lookup x = some d → (x, d) ∈ l
  | [], h => by cases h
  | p :: r, h => by
    rw [List.lookup_cons] at h
    split at h
    · rename_i e
      have h' : p.2 = d := Option.some.inj h
      have hp : p = (x, d) := by rw [beq_iff_eq.mp e, ← h']
      rw [hp]
      exact List.mem_cons_self
    · exact List.mem_cons_of_mem _ (lookup_mem h)
theorem cs_all {cs : List (Str × D)} {P : Str → D → Prop} (h : ∀ p ∈ cs, P p.1 p.2) : ∀ x d, cs.lookup x = some d → P x d := by
  intro x d hd
  have : (x, d) ∈ cs := by
    clear h
    induction cs with
    | nil => cases hd
    | cons p r ih =>
      rw [List.lookup_cons] at hd
      split at hd
      · rename_i e
        have h' : p.2 = d := Option.some.inj hd
        have hp : p = (x, d) := by rw [beq_iff_eq.mp e, ← h']
        rw [hp]
        exact List.mem_cons_self
      · exact List.mem_cons_of_mem _ (ih hd)
  exact h _ this
theorem cst_row {K : PySem.W.Frag} {mg : Str → Option Value} {x : Str} {r n : Nat} {zs : List Str} {its : Array Value} {sl : Array (Option Value)} (hm : mg x = some (.ref r)) (hl : K.lookup r = some ⟨.type "tuple", none, .seq its n, sl⟩) (hz : its.size ≤ sizeLine) (hv : Vals (zs.map V.str) its.toList) :
    ∃ (u : Value) (v : V), mg x = some u ∧ RelV v u ∧ ∀ ρ n H, RD K ρ n H (.tup (zs.map D.str)) v :=
  ⟨.ref r, .ref r, hm, rfl, fun ρ n H => .tup (.inr ⟨_, _, _, hl, rfl, rfl, rfl, hz, hv⟩) (strs_rd zs)⟩

/-! ### the end -/
def noT (w : World) : Tbl := ⟨fun _ => none, w⟩
/-- what is left to show of a law: plain -/
def LawOk (es : List DefE) (k i : Nat) : Prop := ∀ ns : List Int, ns.length ≤ 63 → callM (progOf es) k i [.klst (ns.map .int)] [] (fun v _ => v = .bl true) fun _ _ => False
theorem rds_ints {K : PySem.W.Frag} {ρ : Nat → Addr} {n : Nat} {H : Hp} : ∀ ns : List Int, RDs K ρ n H (ns.map D.int) (ns.map V.int)
  | [] => .nil
  | x :: r => .cons (.int x) (rds_ints r)
def spLawT (T : PySem.W.Frag → Tbl) (es : List DefE) (k i : Nat) (K : PySem.W.Frag) : Sp := spM (T K) K (callM (progOf es) k) i 1
abbrev spLaw (w : World) (es : List DefE) (k i : Nat) (K : PySem.W.Frag) : Sp := spLawT (fun _ => noT w) es k i K
/-- classes by their names; exceptions by theirs, with their fields -/
def tblOf (cs : List Str) (w : World) (K : PySem.W.Frag) (xc : List (Str × Nat × Str) := []) : Tbl := ⟨fun c => match cs[c]? with
  | some x => match PySem.W.nsIn K mainGlobals x with
    | some (some (.ref C)) => some (C, none)
    | _ => none
  | none => match xc.find? (fun p => p.2.1 == c) with
    | some p => match PySem.W.nsIn K mainGlobals p.1 with
      | some (some (.ref C)) => some (C, some p.2.2)
      | _ => none
    | none => none, w⟩
theorem tbl_at {cs : List Str} {w : World} {K : PySem.W.Frag} {xc : List (Str × Nat × Str)} {c : Nat} {x : Str} {C : Addr} (h : cs[c]? = some x) (hn : PySem.W.nsIn K mainGlobals x = some (some (.ref C))) : tblOf cs w K xc c = some (C, none) := by
  unfold tblOf
  dsimp only
  rw [h]
  dsimp only
  rw [hn]
theorem tbl_inv {cs : List Str} {w : World} {K : PySem.W.Frag} {xc : List (Str × Nat × Str)} {c : Nat} {C : Addr} (h : tblOf cs w K xc c = some (C, none)) : ∃ x ∈ cs, PySem.W.nsIn K mainGlobals x = some (some (.ref C)) := by
  unfold tblOf at h
  dsimp only at h
  split at h
  · rename_i x hx
    split at h
    · rename_i C' hn
      cases h
      exact ⟨x, List.mem_of_getElem? hx, hn⟩
    · cases h
  · split at h
    · split at h
      · cases h
      · cases h
    · cases h
theorem tbl_xat {cs : List Str} {w : World} {K : PySem.W.Frag} {xc : List (Str × Nat × Str)} {c : Nat} {x f : Str} {C : Addr} (h : cs[c]? = none) (h2 : xc.find? (fun p => p.2.1 == c) = some (x, c, f)) (hn : PySem.W.nsIn K mainGlobals x = some (some (.ref C))) : tblOf cs w K xc c = some (C, some f) := by
  unfold tblOf
  dsimp only
  rw [h]
  dsimp only
  rw [h2]
  dsimp only
  rw [hn]
theorem tbl_xinv {cs : List Str} {w : World} {K : PySem.W.Frag} {xc : List (Str × Nat × Str)} {c : Nat} {C : Addr} {f : Str} (h : tblOf cs w K xc c = some (C, some f)) : ∃ p ∈ xc, p.2.1 = c ∧ p.2.2 = f ∧ PySem.W.nsIn K mainGlobals p.1 = some (some (.ref C)) := by
  unfold tblOf at h
  dsimp only at h
  split at h
  · split at h <;> cases h
  · split at h
    · rename_i p hp
      split at h
      · rename_i C' hn
        cases h
        exact ⟨p, List.mem_of_find?_eq_some hp, by simpa using List.find?_some hp, rfl, hn⟩
      · cases h
    · cases h
theorem law_sp {T : PySem.W.Frag → Tbl} {es : List DefE} {k i : Nat} (h : LawOk es k i) {K : PySem.W.Frag} {H : Hp} {a : Addr} {ns : List Int} (hl : ns.length ≤ 63) (ho : Only H) (hS : SqL K H a (ns.map V.int)) : spLawT T es k i K [.ref a] H (fun v _ => v = .bl true) fun _ _ _ => False := by
  have hF : SqF K H a (ns.map V.int) := by
    rcases hS with (q | q) | q
    · rcases ho a with z | ⟨o, xs, z⟩
      · rw [q] at z; cases z
      · rw [q] at z; cases z
    · exact .inl q
    · exact .inr q
  refine ⟨fun _ => 0, [], [.klst (ns.map .int)], fun _ _ => False, ⟨fun a o h => by simp at h, fun a b h => by simp at h⟩, .cons (.klst hF (rds_ints ns)) .nil, rfl, fun _ _ z => z.elim, ?_⟩
  refine callM_mono (progOf es) k _ _ _ _ _ _ _ (h ns hl) (fun v S hv ρ' H' u _ _ r => ?_) fun _ _ z => z
  subst hv
  cases r
  rfl
end MP
/-! MPTac: rules to step through small trees, one a construct. -/
namespace MP
open PySem PySem.Spec PyProof.Rows L2

/-! ### the store -/
section
variable {S : Sto} {a b : Nat} {o o' : O} {l : List O}
theorem g_set (h : S[a]? = some o') : (S.set a o)[a]? = some o := List.getElem?_set_self (List.getElem?_eq_some_iff.mp h).1
theorem g_setn (n : a ≠ b) (h : S[b]? = some o) : (S.set a o')[b]? = some o := by rw [List.getElem?_set_ne n]; exact h
theorem g_app (h : S[a]? = some o) : (S ++ l)[a]? = some o := by rw [List.getElem?_append_left (List.getElem?_eq_some_iff.mp h).1]; exact h
theorem g_last : (S ++ [o])[S.length]? = some o := by simp
theorem g_lt (h : S[a]? = some o) : a < S.length := (List.getElem?_eq_some_iff.mp h).1
theorem l_of {xs : List D} (h : S[a]? = some (.lst xs)) : lstOf S a = some xs := by unfold lstOf; rw [h]
theorem gd_nil : Gd [] S := fun _ h => by cases h
theorem gd_one {xs : List D} (h : S[a]? = some (.lst xs)) : Gd [(a, xs)] S := fun g hg => by
  rw [List.mem_singleton.mp hg]
  exact l_of h
end

/-! ### operators -/
section
variable {S : Sto} {Q : KD} {P : Bool → Prop}
theorem b_add {i j : Int} (q : Q (.int (i + j)) S) : wpBin .add (.int i) (.int j) S Q := q
theorem b_addt {i j : List D} (h : i.length + j.length ≤ sizeLine) (q : Q (.tup (i ++ j)) S) : wpBin .add (.tup i) (.tup j) S Q := ⟨h, q⟩
theorem b_addl {a b : Nat} {xs ys : List D} (h1 : S[a]? = some (.lst xs)) (h2 : S[b]? = some (.lst ys)) (h : xs.length + ys.length ≤ sizeLine) (q : Q (.ref S.length) (S ++ [.lst (xs ++ ys)])) : wpBin .add (.ref a) (.ref b) S Q := by
  simp only [wpBin, h1, h2]
  exact ⟨h, q⟩
theorem b_sub {i j : Int} (q : Q (.int (i - j)) S) : wpBin .sub (.int i) (.int j) S Q := q
theorem b_mul {i j : Int} (h : IntMulOk i j) (q : Q (.int (i * j)) S) : wpBin .mul (.int i) (.int j) S Q := ⟨h, q⟩
theorem b_fdiv {i j : Int} (h : 0 < j) (h2 : j.natAbs.log2 < 9000) (q : Q (.int (i / j)) S) : wpBin .fdiv (.int i) (.int j) S Q := by
  show (if 0 < j then _ else _)
  rw [if_pos h]
  exact ⟨h2, q⟩
theorem b_mod {i j : Int} (h : 0 < j) (q : Q (.int (i % j)) S) : wpBin .mod (.int i) (.int j) S Q := by
  show (if 0 < j then _ else _)
  rw [if_pos h]
  exact q
theorem b_pow {i j : Int} (h : CPow i j) (q : Q (.int (i ^ j.toNat)) S) : wpBin .pow (.int i) (.int j) S Q := ⟨h, q⟩
theorem b_shl {i j : Int} (h : CShl i j) (q : Q (.int (i * 2 ^ j.toNat)) S) : wpBin .shl (.int i) (.int j) S Q := ⟨h, q⟩
theorem b_shr {i j : Int} (h : 0 ≤ j) (q : Q (.int (i / 2 ^ j.toNat)) S) : wpBin .shr (.int i) (.int j) S Q := ⟨h, q⟩
theorem b_and {i j : Int} (q : Q (.int (Builtin.bitAnd i j)) S) : wpBin .band (.int i) (.int j) S Q := q
theorem b_or {i j : Int} (q : Q (.int (Builtin.bitOr i j)) S) : wpBin .bor (.int i) (.int j) S Q := q
theorem b_xor {i j : Int} (q : Q (.int (Builtin.bitXor i j)) S) : wpBin .bxor (.int i) (.int j) S Q := q
theorem c_lt {i j : Int} (q : Q (.bl (decide (i < j))) S) : wpCmp .lt (.int i) (.int j) S Q := q
theorem c_le {i j : Int} (q : Q (.bl (decide (i ≤ j))) S) : wpCmp .le (.int i) (.int j) S Q := q
theorem c_gt {i j : Int} (q : Q (.bl (decide (j < i))) S) : wpCmp .gt (.int i) (.int j) S Q := q
theorem c_ge {i j : Int} (q : Q (.bl (decide (j ≤ i))) S) : wpCmp .ge (.int i) (.int j) S Q := q
theorem c_eqi {i j : Int} (q : Q (.bl (decide (i = j))) S) : wpCmp .eq (.int i) (.int j) S Q := by show Q (.bl (false ^^ decide (i = j))) S; rw [xorF]; exact q
theorem c_nei {i j : Int} (q : Q (.bl (!decide (i = j))) S) : wpCmp .ne (.int i) (.int j) S Q := by show Q (.bl (true ^^ decide (i = j))) S; rw [xorT]; exact q
theorem c_eqb {i j : Bool} (q : Q (.bl (decide (i = j))) S) : wpCmp .eq (.bl i) (.bl j) S Q := by show Q (.bl (false ^^ decide (i = j))) S; rw [xorF]; exact q
theorem c_neb {i j : Bool} (q : Q (.bl (!decide (i = j))) S) : wpCmp .ne (.bl i) (.bl j) S Q := by show Q (.bl (true ^^ decide (i = j))) S; rw [xorT]; exact q
theorem c_eqs {i j : Str} (q : Q (.bl (decide (i = j))) S) : wpCmp .eq (.str i) (.str j) S Q := by show Q (.bl (false ^^ decide (i = j))) S; rw [xorF]; exact q
theorem c_nes {i j : Str} (q : Q (.bl (!decide (i = j))) S) : wpCmp .ne (.str i) (.str j) S Q := by show Q (.bl (true ^^ decide (i = j))) S; rw [xorT]; exact q
/-- in a tuple of flat things; in a list of flat things -/
theorem c_int {x : D} {ys : List D} (h1 : flatD x = true) (h2 : ys.all flatD = true) (q : Q (.bl (inF x ys)) S) : wpCmp .isin x (.tup ys) S Q := by
  have e : wpCmp .isin x (.tup ys) S Q = wpIn false x (.tup ys) S Q := by cases x <;> rfl
  rw [e]
  exact ⟨h1, h2, by rw [xorF]; exact q⟩
theorem c_inl {x : D} {a : Nat} {ys : List D} (h : S[a]? = some (.lst ys)) (h1 : flatD x = true) (h2 : ys.all flatD = true) (q : Q (.bl (inF x ys)) S) : wpCmp .isin x (.ref a) S Q := by
  have e : wpCmp .isin x (.ref a) S Q = wpIn false x (.ref a) S Q := by cases x <;> rfl
  rw [e]
  simp only [wpIn, h]
  exact .inl ⟨h1, h2, by rw [xorF]; exact q⟩
theorem c_nint {x : D} {ys : List D} (h1 : flatD x = true) (h2 : ys.all flatD = true) (q : Q (.bl (!inF x ys)) S) : wpCmp .notin x (.tup ys) S Q := by
  have e : wpCmp .notin x (.tup ys) S Q = wpIn true x (.tup ys) S Q := by cases x <;> rfl
  rw [e]
  exact ⟨h1, h2, by rw [xorT]; exact q⟩
theorem c_ninl {x : D} {a : Nat} {ys : List D} (h : S[a]? = some (.lst ys)) (h1 : flatD x = true) (h2 : ys.all flatD = true) (q : Q (.bl (!inF x ys)) S) : wpCmp .notin x (.ref a) S Q := by
  have e : wpCmp .notin x (.ref a) S Q = wpIn true x (.ref a) S Q := by cases x <;> rfl
  rw [e]
  simp only [wpIn, h]
  exact .inl ⟨h1, h2, by rw [xorT]; exact q⟩
theorem c_inS {x y : Str} (q : Q (.bl (!(Builtin.Str.occurrences y x 0 y.length 1).isEmpty)) S) : wpCmp .isin (.str x) (.str y) S Q := by
  show Q (.bl (false ^^ !(Builtin.Str.occurrences y x 0 y.length 1).isEmpty)) S
  rw [xorF]
  exact q
/-- == of data -/
theorem c_eqd {x y : D} {d e : PyData} (hx : Pd S x d) (hy : Pd S y e) (s1 : SeqAt.shaped d = true) (s2 : SeqAt.shaped e = true) (q : Q (.bl (PyData.eqv d e)) S) : wpCmp .eq x y S Q := by
  have z : wpCmp .eq x y S Q = wpEq false x y S Q := by cases x <;> cases y <;> rfl
  rw [z]
  have fl : ∀ {b : Bool}, Q (.bl b) S → Q (.bl (false ^^ b)) S := fun {b} h => by rw [xorF]; exact h
  unfold wpEq
  split
  · cases hx; cases hy; exact fl (by rw [← Bool.beq_eq_decide_eq]; exact q)
  · cases hx; cases hy; exact fl (by rw [← Bool.beq_eq_decide_eq]; exact q)
  · cases hx; cases hy; exact fl (by rw [← Bool.beq_eq_decide_eq]; exact q)
  · exact .inl ⟨d, e, hx, hy, s1, s2, fl q⟩
theorem c_ned {x y : D} {d e : PyData} (hx : Pd S x d) (hy : Pd S y e) (s1 : SeqAt.shaped d = true) (s2 : SeqAt.shaped e = true) (q : Q (.bl (!PyData.eqv d e)) S) : wpCmp .ne x y S Q := by
  have z : wpCmp .ne x y S Q = wpEq true x y S Q := by cases x <;> cases y <;> rfl
  rw [z]
  have fl : ∀ {b : Bool}, Q (.bl (!b)) S → Q (.bl (true ^^ b)) S := fun {b} h => by rw [xorT]; exact h
  unfold wpEq
  split
  · cases hx; cases hy; exact fl (by rw [← Bool.beq_eq_decide_eq]; exact q)
  · cases hx; cases hy; exact fl (by rw [← Bool.beq_eq_decide_eq]; exact q)
  · cases hx; cases hy; exact fl (by rw [← Bool.beq_eq_decide_eq]; exact q)
  · exact .inl ⟨d, e, hx, hy, s1, s2, fl q⟩
/-- two dicts with the same things -/
theorem c_nedk {a b : Nat} {kvs : List (Key × D)} (h1 : S[a]? = some (.dk false kvs)) (h2 : S[b]? = some (.dk false kvs)) (fl : ∀ kv ∈ kvs, flatD kv.2 = true) (nd : (kvs.map (·.1)).Nodup) (q : Q (.bl false) S) : wpCmp .ne (.ref a) (.ref b) S Q := .inr ⟨a, b, kvs, rfl, rfl, h1, h2, fl, nd, q⟩
theorem c_eqdk {a b : Nat} {kvs : List (Key × D)} (h1 : S[a]? = some (.dk false kvs)) (h2 : S[b]? = some (.dk false kvs)) (fl : ∀ kv ∈ kvs, flatD kv.2 = true) (nd : (kvs.map (·.1)).Nodup) (q : Q (.bl true) S) : wpCmp .eq (.ref a) (.ref b) S Q := .inr ⟨a, b, kvs, rfl, rfl, h1, h2, fl, nd, q⟩
theorem isTy_dk {a : Nat} {fz : Bool} {kvs : List (Key × D)} {t : Ty} (h : S[a]? = some (.dk fz kvs)) : isTy (.ref a) t S = some (match t with | .dict => true | _ => false) := by simp only [isTy, h] <;> cases t <;> rfl
theorem c_isb {a b : Bool} (q : Q (.bl (decide (a = b))) S) : wpCmp .isN (.bl a) (.bl b) S Q := q
theorem c_notb {a b : Bool} (q : Q (.bl (!decide (a = b))) S) : wpCmp .notN (.bl a) (.bl b) S Q := q
theorem c_isn {x : D} (h : x = .non) (q : Q (.bl true) S) : wpCmp .isN x .non S Q := by subst h; exact q
theorem c_isn' {x : D} (h : x ≠ .non) (q : Q (.bl false) S) : wpCmp .isN x .non S Q := by
  cases x <;> first | exact absurd rfl h | exact q
theorem c_notn {x : D} (h : x = .non) (q : Q (.bl false) S) : wpCmp .notN x .non S Q := by subst h; exact q
theorem c_notn' {x : D} (h : x ≠ .non) (q : Q (.bl true) S) : wpCmp .notN x .non S Q := by
  cases x <;> first | exact absurd rfl h | exact q
theorem t_bl {b : Bool} (q : P b) : truK S (.bl b) P := q
theorem t_int {i : Int} (q : P (i != 0)) : truK S (.int i) P := q
theorem t_non (q : P false) : truK S .non P := q
theorem t_tup {xs : List D} (q : P (!xs.isEmpty)) : truK S (.tup xs) P := q
theorem t_ref {a : Nat} {xs : List D} (h : S[a]? = some (.lst xs)) (q : P (!xs.isEmpty)) : truK S (.ref a) P := by
  simp only [truK, tru, h]
  exact q
theorem g_2 {a : Nat} {fz : Bool} {kvs : List (Key × D)} {y z : D} {k : Key} (h : S[a]? = some (.dk fz kvs)) (hk : keyOf y = some k) (q : Q ((dGet kvs k).getD z) S) : wpGet (.ref a) y z S Q := by
  have e : dkOf S a = some kvs := by unfold dkOf; rw [h]
  simp only [wpGet, e, hk]
  exact q
theorem is_dk {a : Nat} {fz : Bool} {kvs : List (Key × D)} (h : S[a]? = some (.dk fz kvs)) : isDk (.ref a) S := ⟨kvs, by unfold dkOf; rw [h]⟩
theorem x_tup {xs : List D} {i : Int} {v : D} (h : atI xs i = some v) (q : Q v S) : wpIx (.tup xs) (.int i) S Q := by
  show (match atI xs i with | some v => Q v S | none => False)
  rw [h]
  exact q
theorem x_klst {xs : List D} {i : Int} {v : D} (h : atI xs i = some v) (q : Q v S) : wpIx (.klst xs) (.int i) S Q := by
  show (match atI xs i with | some v => Q v S | none => False)
  rw [h]
  exact q
theorem x_ref {a : Nat} {xs : List D} {i : Int} {v : D} (h0 : S[a]? = some (.lst xs)) (h : atI xs i = some v) (q : Q v S) : wpIx (.ref a) (.int i) S Q := by
  show (match S[a]?.bind fun o => ixO o (.int i) with | some v => Q v S | none => False)
  rw [h0]
  show (match atI xs i with | some v => Q v S | none => False)
  rw [h]
  exact q
theorem x_dk {a : Nat} {fz : Bool} {kvs : List (Key × D)} {y v : D} {k : Key} (h0 : S[a]? = some (.dk fz kvs)) (hk : keyOf y = some k) (h : dGet kvs k = some v) (q : Q v S) : wpIx (.ref a) y S Q := by
  show (match S[a]?.bind fun o => ixO o y with | some v => Q v S | none => False)
  rw [h0]
  show (match (keyOf y).bind fun k => dGet kvs k with | some v => Q v S | none => False)
  rw [hk]
  show (match dGet kvs k with | some v => Q v S | none => False)
  rw [h]
  exact q
theorem sl_tup {xs : List D} {l h : Option Int} (q : Q (.tup (cutD xs l h)) S) : wpSl (.tup xs) l h S Q := q
theorem sl_klst {xs : List D} {l h : Option Int} (q : Q (.ref S.length) (S ++ [.lst (cutD xs l h)])) : wpSl (.klst xs) l h S Q := q
theorem sl_ref {a : Nat} {xs : List D} {l h : Option Int} (h0 : S[a]? = some (.lst xs)) (q : Q (.ref S.length) (S ++ [.lst (cutD xs l h)])) : wpSl (.ref a) l h S Q := by
  show (match lstOf S a with | some xs => Q (.ref S.length) (S ++ [.lst (cutD xs l h)]) | none => False)
  rw [l_of h0]
  exact q
theorem f_lent {xs : List D} (q : Q (.int xs.length) S) : wpBlt .len [.tup xs] S Q := q
theorem f_lenk {xs : List D} (q : Q (.int xs.length) S) : wpBlt .len [.klst xs] S Q := q
theorem f_lenr {a : Nat} {xs : List D} (h : S[a]? = some (.lst xs)) (q : Q (.int xs.length) S) : wpBlt .len [.ref a] S Q := by
  simp only [wpBlt, h]
  exact q
theorem f_lend {a : Nat} {kvs : List (Key × D)} (h : S[a]? = some (.dk false kvs)) (q : Q (.int kvs.length) S) : wpBlt .len [.ref a] S Q := by
  simp only [wpBlt, h]
  exact q
theorem dk_of {a : Nat} {fz : Bool} {kvs : List (Key × D)} (h : S[a]? = some (.dk fz kvs)) : dkOf S a = some kvs := by unfold dkOf; rw [h]
theorem f_dict {a : Nat} {fz : Bool} {kvs : List (Key × D)} (h : S[a]? = some (.dk fz kvs)) (q : Q (.ref S.length) (S ++ [.dk false kvs])) : wpBlt .dict [.ref a] S Q := by
  simp only [wpBlt, MP.dk_of h]
  exact q
theorem f_dictT {xs : List D} {ps : List (Key × D)} (h : pairsOf xs = some ps) (q : Q (.ref S.length) (S ++ [.dk false (ps.foldl (fun a p => dPut a p.1 p.2) [])])) : wpBlt .dict [.tup xs] S Q := by
  show (match pairsOf xs with | some ps => Q (.ref S.length) (S ++ [.dk false (ps.foldl (fun a p => dPut a p.1 p.2) [])]) | none => False)
  rw [h]
  exact q
theorem f_maxl {a : Nat} {xs : List D} {ns : List Int} (h : S[a]? = some (.lst xs)) (h2 : intsOf xs = some ns) (h3 : 0 < ns.length) (q : ∀ m, m ∈ ns → (∀ y, y ∈ ns → y ≤ m) → Q (.int m) S) : wpBlt .max [.ref a] S Q := by
  show (match (lstOf S a).bind intsOf with | some ns => 0 < ns.length ∧ ∀ m, m ∈ ns → (∀ y, y ∈ ns → y ≤ m) → Q (.int m) S | none => False)
  rw [l_of h, Option.bind_some, h2]
  exact ⟨h3, q⟩
theorem e_fld {c : CallT} {o : MX} {f : Str} {E : Ex → Sto → Prop} {σ : Env} (q : wpE c o E σ S fun x S1 => wpFld x f S1 Q) : wpE c (.fld o f) E σ S Q := by unfold wpE; exact q
theorem fld_ref {a cn : Nat} {fs : List (Str × D)} {f : Str} {v : D} (h : S[a]? = some (.ins cn fs)) (h2 : fs.lookup f = some v) (q : Q v S) : wpFld (.ref a) f S Q := by
  simp only [wpFld, h, h2]
  exact q
theorem e_make {Pg : MP.Prog} {k cl : Nat} {fs : List Str} {es : MXs} {E : Ex → Sto → Prop} {σ : Env} (hp : Pg[exLev]? = none) (q : wpEs (callM Pg (k + 2)) es E σ S fun vs S1 => vs.length = fs.length ∧ Q (.ref S1.length) (S1 ++ [.ins cl (fs.zip vs)])) : wpE (callM Pg (k + 2)) (.make cl fs es) E σ S Q := by
  unfold wpE
  simp only [callM, hp]
  exact ⟨trivial, by omega, trivial, q⟩
theorem f_abs {i : Int} (q : Q (.int (if i < 0 then -i else i)) S) : wpBlt .abs [.int i] S Q := q
theorem f_max {i j : Int} (q : Q (.int (if j > i then j else i)) S) : wpBlt .max [.int i, .int j] S Q := q
theorem f_min {i j : Int} (q : Q (.int (if j < i then j else i)) S) : wpBlt .min [.int i, .int j] S Q := q
theorem f_sum {a : Nat} {xs : List D} {ns : List Int} (h : S[a]? = some (.lst xs)) (h2 : intsOf xs = some ns) (q : Q (.int ns.sum) S) : wpBlt .sum [.ref a] S Q := by
  show (match (lstOf S a).bind intsOf with | some ns => Q (.int ns.sum) S | none => False)
  rw [l_of h, Option.bind_some, h2]
  exact q
theorem f_sumt {xs : List D} {ns : List Int} (h2 : intsOf xs = some ns) (q : Q (.int ns.sum) S) : wpBlt .sum [.tup xs] S Q := by
  show (match intsOf xs with | some ns => Q (.int ns.sum) S | none => False)
  rw [h2]
  exact q
theorem f_srt {a : Nat} {zs : List (D × PyData)} (h : S[a]? = some (.lst (zs.map Prod.fst))) (h1 : ∀ z ∈ zs, Pd S z.1 z.2) (h2 : PySem.W.AllAlike (zs.map Prod.snd)) (h3 : PySem.W.Sortable (zs.map Prod.snd)) (h4 : ∀ z ∈ zs, z.2.depth ≤ 60) (q : Q (.ref S.length) (S ++ [.lst ((zs.mergeSort (PySem.W.dataLe false Prod.snd)).map Prod.fst)])) : wpBlt .sorted [.ref a] S Q := .inl ⟨zs, l_of h, h1, h2, h3, h4, q⟩
theorem f_srtE {a : Nat} {xs : List D} (h : S[a]? = some (.lst xs)) (h1 : ∀ x ∈ xs, x = .tup []) (q : Q (.ref S.length) (S ++ [.lst xs])) : wpBlt .sorted [.ref a] S Q := .inr ⟨xs, l_of h, h1, q⟩
theorem c_ltt {xs ys : List D} {ds es : List PyData} (h1 : Pds S xs ds) (h2 : Pds S ys es) (h3 : PySem.W.alikeAll ds es = true) (h4 : (PyData.tuple ds).depth ≤ 60) (q : Q (.bl (PySem.W.dataLt (.tuple ds) (.tuple es))) S) : wpCmp .lt (.tup xs) (.tup ys) S Q := ⟨ds, es, h1, h2, h3, h4, q⟩
theorem f_any {a : Nat} {xs : List D} {bs : List Bool} (h : S[a]? = some (.lst xs)) (h2 : blsOf xs = some bs) (q : Q (.bl (bs.any id)) S) : wpBlt .any [.ref a] S Q := by
  show (match (lstOf S a).bind blsOf with | some bs => Q (.bl (bs.any id)) S | none => False)
  rw [l_of h, Option.bind_some, h2]
  exact q
theorem f_all {a : Nat} {xs : List D} {bs : List Bool} (h : S[a]? = some (.lst xs)) (h2 : blsOf xs = some bs) (q : Q (.bl (bs.all id)) S) : wpBlt .all [.ref a] S Q := by
  show (match (lstOf S a).bind blsOf with | some bs => Q (.bl (bs.all id)) S | none => False)
  rw [l_of h, Option.bind_some, h2]
  exact q
theorem f_int {i : Int} (q : Q (.int i) S) : wpBlt .int [.int i] S Q := q
theorem f_bool {i : Bool} (q : Q (.bl i) S) : wpBlt .bool [.bl i] S Q := q
theorem f_listt {xs : List D} (q : Q (.ref S.length) (S ++ [.lst xs])) : wpBlt .list [.tup xs] S Q := q
theorem f_listk {xs : List D} (q : Q (.ref S.length) (S ++ [.lst xs])) : wpBlt .list [.klst xs] S Q := q
theorem f_listr {a : Nat} {xs : List D} (h : S[a]? = some (.lst xs)) (q : Q (.ref S.length) (S ++ [.lst xs])) : wpBlt .list [.ref a] S Q := by
  show (match lstOf S a with | some xs => Q (.ref S.length) (S ++ [.lst xs]) | none => False)
  rw [l_of h]
  exact q
theorem f_tupt {xs : List D} (q : Q (.tup xs) S) : wpBlt .tuple [.tup xs] S Q := q
theorem f_tupr {a : Nat} {xs : List D} (h : S[a]? = some (.lst xs)) (q : Q (.tup xs) S) : wpBlt .tuple [.ref a] S Q := by
  show (match lstOf S a with | some xs => Q (.tup xs) S | none => False)
  rw [l_of h]
  exact q
theorem m_app {a : Nat} {y : D} {xs : List D} (h : S[a]? = some (.lst xs)) (hl : xs.length < sizeLine) (q : Q .non (S.set a (.lst (xs ++ [y])))) : wpMeth .append (.ref a) [y] S Q := by
  simp only [wpMeth, h]
  exact ⟨hl, q⟩
theorem m_pop {a : Nat} {y : D} {xs : List D} (h : S[a]? = some (.lst xs)) (hl : xs[xs.length - 1]? = some y) (q : Q y (S.set a (.lst xs.dropLast))) : wpMeth .pop (.ref a) [] S Q := by
  simp only [wpMeth, h, hl]
  exact q
theorem m_popAt {a k : Nat} {y : D} {xs : List D} (h : S[a]? = some (.lst xs)) (hl : xs[k]? = some y) (hk : k < 1000000) (q : Q y (S.set a (.lst (xs.eraseIdx k)))) : wpMeth .popAt (.ref a) [.int (k : Int)] S Q := by
  have e : ixN xs.length (k : Int) = some k := by
    unfold ixN
    have := (List.getElem?_eq_some_iff.mp hl).1
    rw [if_pos (by omega), if_pos (by omega)]
    simp
  simp only [wpMeth, h, e, hl]
  exact ⟨by omega, q⟩
theorem m_ins {a k : Nat} {y : D} {xs : List D} (h : S[a]? = some (.lst xs)) (hl : xs.length < sizeLine) (hk : k < 2 ^ 63) (q : Q .non (S.set a (.lst (xs.take k ++ [y] ++ xs.drop k)))) : wpMeth .insert (.ref a) [.int (k : Int), y] S Q := by
  simp only [wpMeth, h]
  exact ⟨⟨hl, by omega, by omega⟩, q⟩
theorem m_ext {a b : Nat} {xs ys : List D} (h : S[a]? = some (.lst xs)) (h2 : S[b]? = some (.lst ys)) (hl : xs.length + ys.length ≤ sizeLine) (q : Q .non (S.set a (.lst (xs ++ ys)))) : wpMeth .extend (.ref a) [.ref b] S Q := by
  simp only [wpMeth, h, h2]
  exact ⟨hl, q⟩
theorem m_extT {a : Nat} {xs ys : List D} (h : S[a]? = some (.lst xs)) (hl : xs.length + ys.length ≤ sizeLine) (q : Q .non (S.set a (.lst (xs ++ ys)))) : wpMeth .extend (.ref a) [.tup ys] S Q := by
  simp only [wpMeth, h]
  exact ⟨hl, q⟩
theorem r_alnum {x : Str} : mtRecv .alnum (.str x) S := trivial
theorem r_split {x : Str} : mtRecv .split (.str x) S := trivial
theorem m_alnum {x : Str} (q : Q (.bl (Txt.isalnum x)) S) : wpMeth .alnum (.str x) [] S Q := q
theorem m_split {x y : Str} (h : (y.length == 0) = false) (hl : x.length + 2 ≤ sizeLine) (q : Q (.ref S.length) (S ++ [.lst ((Txt.split x y).map D.str)])) : wpMeth .split (.str x) [.str y] S Q := ⟨⟨h, hl⟩, q⟩
theorem f_str {i : Int} (h : i.natAbs.log2 < 1920) (q : Q (.str (Str.ofString (toString i))) S) : wpBlt .str [.int i] S Q := ⟨h, q⟩
theorem f_lens {x : Str} (h : x.length ≤ sizeLine) (q : Q (.int x.length) S) : wpBlt .len [.str x] S Q := ⟨h, q⟩
theorem sl_str' {x : Str} {l h : Option Int} (hz : x.length ≤ sizeLine) (q : Q (.str (cutS x l h)) S) : wpSl (.str x) l h S Q := ⟨hz, q⟩
theorem x_str {x : Str} {i : Int} {c : Nat} (hz : x.length ≤ sizeLine) (h : atI x.cps.toList i = some c) (q : Q (.str ⟨#[c]⟩) S) : wpIx (.str x) (.int i) S Q := ⟨hz, by rw [h]; exact q⟩
theorem b_adds {x y : Str} (h : x.length + y.length ≤ sizeLine) (q : Q (.str (x ++ y)) S) : wpBin .add (.str x) (.str y) S Q := ⟨h, q⟩
theorem b_muls {x : Str} {n : Nat} (h0 : n < 2 ^ 62) (h : x.length * n ≤ sizeLine) (q : Q (.str (repS x n)) S) : wpBin .mul (.str x) (.int (n : Nat)) S Q := ⟨⟨by omega, by omega, by simpa using h⟩, by simpa using q⟩
theorem m_bits {i : Int} (q : Q (.int (Builtin.Int.intBits i : Nat)) S) : wpMeth .bits (.int i) [] S Q := q
theorem r_lst {m : Mt} {a : Nat} {xs : List D} (hm : m ≠ .bits ∧ m ≠ .alnum ∧ m ≠ .split) (h : S[a]? = some (.lst xs)) : mtRecv m (.ref a) S := by
  cases m <;> first | exact absurd rfl hm.1 | exact absurd rfl hm.2.1 | exact absurd rfl hm.2.2 | (simp only [mtRecv, h])
theorem r_int {i : Int} : mtRecv .bits (.int i) S := trivial
theorem rg_1 {j : Int} {R : Int → Int → Sto → Prop} (q : R 0 j S) : wpRg [.int j] S R := q
theorem rg_2 {i j : Int} {R : Int → Int → Sto → Prop} (q : R i j S) : wpRg [.int i, .int j] S R := q
theorem set_dk {a : Nat} {y : D} {k : Key} {v : D} {kvs : List (Key × D)} {R : Sto → Prop} (h : S[a]? = some (.dk false kvs)) (hk : keyOf y = some k) (hl : kvs.length < sizeLine) (q : R (S.set a (.dk false (dPut kvs k v)))) : wpSet (.ref a) y v S R := by
  cases y <;> first | (cases hk; done) | skip
  · cases hk
    simp only [wpSet, h]
    exact ⟨hl, q⟩
  · cases hk
    simp only [wpSet, h]
    exact ⟨hl, q⟩
theorem set_ref {a j : Nat} {k : Int} {v : D} {xs : List D} {R : Sto → Prop} (h : S[a]? = some (.lst xs)) (h2 : ixN xs.length k = some j) (q : R (S.set a (.lst (xs.set j v)))) : wpSet (.ref a) (.int k) v S R := by
  simp only [wpSet, h, h2]
  exact q
theorem isTy_int {i : Int} {t : Ty} : isTy (.int i) t S = some (match t with | .int => true | _ => false) := rfl
theorem isTy_bl {i : Bool} {t : Ty} : isTy (.bl i) t S = some (match t with | .int => true | .bool => true | _ => false) := rfl
theorem isTy_str {i : Str} {t : Ty} : isTy (.str i) t S = some (match t with | .str => true | _ => false) := rfl
theorem isTy_non {t : Ty} : isTy .non t S = some false := rfl
theorem isTy_tup {i : List D} {t : Ty} : isTy (.tup i) t S = some (match t with | .tuple => true | _ => false) := rfl
theorem isTy_ref {a : Nat} {xs : List D} {t : Ty} (h : S[a]? = some (.lst xs)) : isTy (.ref a) t S = some (match t with | .list => true | _ => false) := by simp only [isTy, h] <;> cases t <;> rfl
end
/-! ### trees -/
/-- a for's turn; a comprehension's turn -/
def forB (c : CallT) (t : Tg) (ss : MSs) (rt : KD) (nx : Env → Sto → Prop) (ex : Ex → Env → Sto → Prop) : D → Env → Sto → (Env → Sto → Prop) → Prop := fun x σ2 S2 K => match asg t x σ2 with
  | some σ3 => wpSs c ss ⟨K, rt, nx, K, ex⟩ σ3 S2
  | none => False
def cmpB (c : CallT) (vs : List Nat) (t : Tg) (ifs : MXs) (elt : MX) (σ : Env) : D → Sto → (Option D → Sto → Prop) → Prop := fun x S2 K => match asg t x (wipeE σ vs) with
  | some σ2 => wpIfs c ifs (fun _ _ => False) σ2 S2 fun k S3 => if k = true then wpE c elt (fun _ _ => False) σ2 S3 fun y S4 => K (some y) S4 else K none S3
  | none => False
section
variable {c : CallT} {E : Ex → Sto → Prop} {σ : Env} {S : Sto} {Q : KD} {a b d : MX} {es : MXs}
theorem e_var {i : Nat} {v : D} (h : σ[i]? = some (some v)) (q : Q v S) : wpE c (.var i) E σ S Q := by
  unfold wpE
  rw [h]
  exact q
theorem e_int {i : Int} (q : Q (.int i) S) : wpE c (.int i) E σ S Q := by unfold wpE; exact q
theorem e_bl {i : Bool} (q : Q (.bl i) S) : wpE c (.bl i) E σ S Q := by unfold wpE; exact q
theorem e_non (q : Q .non S) : wpE c .non E σ S Q := by unfold wpE; exact q
theorem e_str {i : Str} (q : Q (.str i) S) : wpE c (.str i) E σ S Q := by unfold wpE; exact q
theorem e_tup (q : wpEs c es E σ S fun vs S1 => vs.length ≤ sizeLine ∧ Q (.tup vs) S1) : wpE c (.tup es) E σ S Q := by unfold wpE; exact q
theorem e_lst (q : wpEs c es E σ S fun vs S1 => vs.length ≤ sizeLine ∧ Q (.ref S1.length) (S1 ++ [.lst vs])) : wpE c (.lst es) E σ S Q := by unfold wpE; exact q
theorem e_bin {o : Bop} (q : wpE c a E σ S fun x S1 => wpE c b E σ S1 fun y S2 => wpBin o x y S2 Q) : wpE c (.bin o a b) E σ S Q := by unfold wpE; exact q
theorem e_neg (q : wpE c a E σ S fun x S1 => match x with
    | .int i => Q (.int (-i)) S1
    | _ => False) : wpE c (.neg a) E σ S Q := by unfold wpE; exact q
theorem e_cmp {o : Cop} (q : wpE c a E σ S fun x S1 => wpE c b E σ S1 fun y S2 => wpCmp o x y S2 Q) : wpE c (.cmp o a b) E σ S Q := by unfold wpE; exact q
theorem e_and (q : wpE c a E σ S fun x S1 => truK S1 x fun k => if k = true then wpE c b E σ S1 Q else Q x S1) : wpE c (.and a b) E σ S Q := by unfold wpE; exact q
theorem e_or (q : wpE c a E σ S fun x S1 => truK S1 x fun k => if k = true then Q x S1 else wpE c b E σ S1 Q) : wpE c (.or a b) E σ S Q := by unfold wpE; exact q
theorem e_not (q : wpE c a E σ S fun x S1 => truK S1 x fun k => Q (.bl (!k)) S1) : wpE c (.not a) E σ S Q := by unfold wpE; exact q
theorem e_ite (q : wpE c d E σ S fun x S1 => truK S1 x fun k => if k = true then wpE c a E σ S1 Q else wpE c b E σ S1 Q) : wpE c (.ite d a b) E σ S Q := by unfold wpE; exact q
theorem e_ix (q : wpE c a E σ S fun x S1 => wpE c b E σ S1 fun y S2 => wpIx x y S2 Q) : wpE c (.ix a b) E σ S Q := by unfold wpE; exact q
theorem e_sl {lo hi : MXo} (q : wpE c a E σ S fun x S1 => wpO c lo E σ S1 fun l S2 => wpO c hi E σ S2 fun h S3 => wpSl x l h S3 Q) : wpE c (.sl a lo hi) E σ S Q := by unfold wpE; exact q
theorem e_call {f : Nat} (q : wpEs c es E σ S fun vs S1 => c f vs S1 Q E) : wpE c (.call f es) E σ S Q := by unfold wpE; exact q
theorem e_blt {f : Bl} (q : wpEs c es E σ S fun vs S1 => wpBlt f vs S1 Q) : wpE c (.blt f es) E σ S Q := by unfold wpE; exact q
theorem e_isi {t : Ty} (q : wpE c a E σ S fun x S1 => match isTy x t S1 with
    | some b => Q (.bl b) S1
    | none => False) : wpE c (.isi a t) E σ S Q := by unfold wpE; exact q
theorem e_lrg (q : wpEs c es E σ S fun vs S1 => wpRg vs S1 fun i j S2 => RgOk i j ∧ Q (.ref S2.length) (S2 ++ [.lst (rgD i j)])) : wpE c (.listRg es) E σ S Q := by unfold wpE; exact q
theorem e_trg (q : wpEs c es E σ S fun vs S1 => wpRg vs S1 fun i j S2 => RgOk i j ∧ Q (.tup (rgD i j)) S2) : wpE c (.tupRg es) E σ S Q := by unfold wpE; exact q
theorem e_meth {m : Mt} (q : wpE c a E σ S fun x S1 => mtRecv m x S1 ∧ wpEs c es E σ S1 fun vs S2 => wpMeth m x vs S2 Q) : wpE c (.meth m a es) E σ S Q := by unfold wpE; exact q
theorem e_comp {vs : List Nat} {t : Tg} {it : MI} {ifs : MXs} {elt : MX} (q : wpI c it E σ S fun xs gs S1 => xs.length ≤ sizeLine ∧
      wpComp gs (cmpB c vs t ifs elt σ) xs S1 fun ys S2 => Q (.ref S2.length) (S2 ++ [.lst ys])) : wpE c (.comp vs t it ifs elt) E σ S Q := by unfold wpE; exact q
theorem e_dnew (q : Q (.ref S.length) (S ++ [.dk false []])) : wpE c .dnew E σ S Q := by unfold wpE; exact q
theorem e_dget (q : wpE c a E σ S fun x S1 => isDk x S1 ∧ wpE c b E σ S1 fun y S2 => wpGet x y .non S2 Q) : wpE c (.dget a b) E σ S Q := by unfold wpE; exact q
theorem e_dget2 (q : wpE c a E σ S fun x S1 => isDk x S1 ∧ wpE c b E σ S1 fun y S2 => wpE c d E σ S2 fun v S3 => wpGet x y v S3 Q) : wpE c (.dget2 a b d) E σ S Q := by unfold wpE; exact q
theorem e_cst {d : D} (q : Q d S) : wpE c (.cst d) E σ S Q := by unfold wpE; exact q
theorem e_fnv {x : Str} (q : Q (.fn x) S) : wpE c (.fnv x) E σ S Q := by unfold wpE; exact q
theorem e_callv {i f : Nat} {x : Str} {fs : List (Str × Nat)} (h : σ[i]? = some (some (.fn x))) (h2 : fs.lookup x = some f) (q : wpEs c es E σ S fun vs S1 => c f vs S1 Q E) : wpE c (.callv i fs es) E σ S Q := by
  unfold wpE
  rw [h]
  dsimp only
  rw [h2]
  exact q
theorem e_keysOf (q : wpE c a E σ S fun x S1 => match x with
    | .ref a => match S1[a]? with
      | some (.dk false kvs) => Q (.ref S1.length) (S1 ++ [.lst (kvs.map fun kv => keyD kv.1)])
      | _ => False
    | _ => False) : wpE c (.keysOf a) E σ S Q := by unfold wpE; exact q
theorem e_compD {vs : List Nat} {t : Tg} {i a : Nat} {ifs : MXs} {elt : MX} {kvs : List (Key × D)} (h : σ[i]? = some (some (.ref a))) (h2 : S[a]? = some (.dk false kvs)) (hz : kvs.length ≤ sizeLine)
    (q : wpComp [] (cmpB c vs t ifs elt σ) (kvs.map fun kv => keyD kv.1) (S.set a (.dk true kvs)) fun ys S2 => S2[a]? = some (.dk true kvs) ∧ Q (.ref S2.length) (S2.set a (.dk false kvs) ++ [.lst ys])) : wpE c (.compD vs t i ifs elt) E σ S Q := by
  unfold wpE
  rw [h]
  dsimp only
  rw [h2]
  exact ⟨hz, q⟩
theorem e_orl (q : wpE c a E σ S Q) : wpE c (.orX a b) E σ S Q := by unfold wpE; exact .inl q
theorem e_orr (q : wpE c b E σ S Q) : wpE c (.orX a b) E σ S Q := by unfold wpE; exact .inr q
theorem es_nil {R : List D → Sto → Prop} (q : R [] S) : wpEs c .nil E σ S R := by unfold wpEs; exact q
theorem es_cons {R : List D → Sto → Prop} (q : wpE c a E σ S fun x S1 => wpEs c es E σ S1 fun xs S2 => R (x :: xs) S2) : wpEs c (.cons a es) E σ S R := by unfold wpEs; exact q
theorem o_no {R : Option Int → Sto → Prop} (q : R none S) : wpO c .no E σ S R := by unfold wpO; exact q
theorem o_so {R : Option Int → Sto → Prop} (q : wpE c a E σ S fun x S1 => match x with
    | .int i => R (some i) S1
    | _ => False) : wpO c (.so a) E σ S R := by unfold wpO; exact q
theorem if_nil {R : Bool → Sto → Prop} (q : R true S) : wpIfs c .nil E σ S R := by unfold wpIfs; exact q
theorem if_cons {R : Bool → Sto → Prop} (q : wpE c a E σ S fun x S1 => truK S1 x fun k => if k = true then wpIfs c es E σ S1 R else R false S1) : wpIfs c (.cons a es) E σ S R := by unfold wpIfs; exact q
theorem i_zip {R : List D → List (Nat × List D) → Sto → Prop} (q : wpE c a E σ S fun x S1 => wpE c b E σ S1 fun y S2 => match x, y with
    | .tup xs, .tup ys => R (zipD xs ys) [] S2
    | _, _ => False) : wpI c (.zip a b) E σ S R := by unfold wpI; exact q
theorem e_ddis1 (q : wpE c a E σ S fun x S1 => wpE c b E σ S1 fun y S2 => match keyOf x with
    | some a => Q (.ref S2.length) (S2 ++ [.dk false [(a, y)]])
    | none => False) : wpE c (.ddis1 a b) E σ S Q := by unfold wpE; exact q
theorem i_rng {R : List D → List (Nat × List D) → Sto → Prop} (q : wpEs c es E σ S fun vs S1 => wpRg vs S1 fun i j S2 => RgB i j ∧ R (rgD i j) [] S2) : wpI c (.rng es) E σ S R := by unfold wpI; exact q
theorem i_rngD {R : List D → List (Nat × List D) → Sto → Prop} (q : wpEs c es E σ S fun vs S1 => match vs with
    | [.int i, .int j, .int k] => (k = -1 ∧ RgB i j) ∧ R (rgDn i j) [] S1
    | _ => False) : wpI c (.rngD es) E σ S R := by unfold wpI; exact q
theorem i_enum {R : List D → List (Nat × List D) → Sto → Prop} (q : wpE c a E σ S fun x S1 => match x with
    | .tup xs => R (enumD xs) [] S1
    | .ref a => match lstOf S1 a with
      | some xs => R (enumD xs) [(a, xs)] S1
      | none => False
    | _ => False) : wpI c (.enum a) E σ S R := by unfold wpI; exact q
theorem i_seq {R : List D → List (Nat × List D) → Sto → Prop} (q : wpE c a E σ S fun x S1 => match x with
    | .tup xs => R xs [] S1
    | .klst xs => R xs [] S1
    | .ref a => match lstOf S1 a with
      | some xs => R xs [(a, xs)] S1
      | none => False
    | .str z => R (signsD z) [] S1
    | _ => False) : wpI c (.seq a) E σ S R := by unfold wpI; exact q
variable {nx bk ct : Env → Sto → Prop} {rt : KD} {ex : Ex → Env → Sto → Prop} {ss s1 s2 : MSs} {s : MS}
theorem s_nil (q : nx σ S) : wpSs c .nil ⟨nx, rt, bk, ct, ex⟩ σ S := by unfold wpSs; exact q
theorem s_cons (q : wpS c s ⟨fun σ' S' => wpSs c ss ⟨nx, rt, bk, ct, ex⟩ σ' S', rt, bk, ct, ex⟩ σ S) : wpSs c (.cons s ss) ⟨nx, rt, bk, ct, ex⟩ σ S := by unfold wpSs; exact q
theorem s_asg {t : Tg} {e : MX} (q : wpE c e (fun x S' => ex x σ S') σ S fun v S1 => match asg t v σ with
    | some σ' => nx σ' S1
    | none => False) : wpS c (.asg (.tg t) e) ⟨nx, rt, bk, ct, ex⟩ σ S := by unfold wpS; exact q
theorem s_nm {i : Nat} {e : MX} (q : wpE c e (fun x S' => ex x σ S') σ S fun v S1 => nx (σ.set i (some v)) S1) : wpS c (.asg (.tg (.nm i)) e) ⟨nx, rt, bk, ct, ex⟩ σ S := by unfold wpS; exact q
theorem s_ix {o i e : MX} (q : wpE c e (fun x S' => ex x σ S') σ S fun v S1 => wpE c o (fun x S' => ex x σ S') σ S1 fun x S2 => wpE c i (fun x S' => ex x σ S') σ S2 fun y S3 => wpSet x y v S3 fun S4 => nx σ S4) : wpS c (.asg (.ix o i) e) ⟨nx, rt, bk, ct, ex⟩ σ S := by unfold wpS; exact q
theorem s_ex {e : MX} (q : wpE c e (fun x S' => ex x σ S') σ S fun _ S1 => nx σ S1) : wpS c (.ex e) ⟨nx, rt, bk, ct, ex⟩ σ S := by unfold wpS; exact q
theorem s_iff (q : wpE c a (fun x S' => ex x σ S') σ S fun v S1 => truK S1 v fun k => if k = true then wpSs c s1 ⟨nx, rt, bk, ct, ex⟩ σ S1 else wpSs c s2 ⟨nx, rt, bk, ct, ex⟩ σ S1) : wpS c (.iff a s1 s2) ⟨nx, rt, bk, ct, ex⟩ σ S := by unfold wpS; exact q
theorem s_ret (q : wpE c a (fun x S' => ex x σ S') σ S rt) : wpS c (.ret a) ⟨nx, rt, bk, ct, ex⟩ σ S := by unfold wpS; exact q
theorem s_ret0 (q : rt .non S) : wpS c .ret0 ⟨nx, rt, bk, ct, ex⟩ σ S := by unfold wpS; exact q
theorem s_brk (q : bk σ S) : wpS c .brk ⟨nx, rt, bk, ct, ex⟩ σ S := by unfold wpS; exact q
theorem s_cnt (q : ct σ S) : wpS c .cnt ⟨nx, rt, bk, ct, ex⟩ σ S := by unfold wpS; exact q
theorem s_pas (q : nx σ S) : wpS c .pas ⟨nx, rt, bk, ct, ex⟩ σ S := by unfold wpS; exact q
theorem s_for {t : Tg} {it : MI} (q : wpI c it (fun x S' => ex x σ S') σ S fun xs gs S1 =>
      wpFor gs (forB c t ss rt nx ex) nx xs σ S1) : wpS c (.for_ t it ss) ⟨nx, rt, bk, ct, ex⟩ σ S := by unfold wpS; exact q
theorem s_forD {t : Tg} {i a' : Nat} {kvs : List (Key × D)} (h1 : σ[i]? = some (some (.ref a'))) (h2 : S[a']? = some (.dk false kvs)) (q : wpFor [] (forB c t ss (fun v S' => S'[a']? = some (.dk true kvs) ∧ rt v (S'.set a' (.dk false kvs))) (unK a' kvs nx) ex) (unK a' kvs nx) (kvs.map fun kv => keyD kv.1) σ (S.set a' (.dk true kvs))) : wpS c (.forD t i ss) ⟨nx, rt, bk, ct, ex⟩ σ S := by
  unfold wpS
  rw [h1]
  dsimp only
  rw [h2]
  exact q
/-- while, by what holds ahead of each turn, and a number that falls -/
theorem s_whl (W : Nat → Env → Sto → Prop) (m : Nat) (h0 : W m σ S) (q : ∀ m σ S, W m σ S →
      wpE c a (fun x S' => ex x σ S') σ S fun v S1 => truK S1 v fun k => if k = true then
        wpSs c ss ⟨fun σ' S' => ∃ m', m' < m ∧ W m' σ' S', rt, nx, fun σ' S' => ∃ m', m' < m ∧ W m' σ' S', ex⟩ σ S1 else nx σ S1) : wpS c (.whl a ss) ⟨nx, rt, bk, ct, ex⟩ σ S := by
  unfold wpS
  exact ⟨W, ⟨m, h0⟩, q⟩
/-- for, by what holds ahead of each turn -/
theorem for_inv {gs : List (Nat × List D)} {t : Tg} {xs : List D} (hc : CallMono c c) (I : Nat → Env → Sto → Prop) (h0 : I 0 σ S) (hg : ∀ i σ S, i ≤ xs.length → I i σ S → Gd gs S)
    (hs : ∀ i x σ S, xs[i]? = some x → I i σ S → match asg t x σ with
      | some σ' => wpSs c ss ⟨I (i + 1), rt, nx, I (i + 1), ex⟩ σ' S
      | none => False) (hd : ∀ σ S, I xs.length σ S → nx σ S) :
    wpFor gs (forB c t ss rt nx ex) nx xs σ S := by
  have go : ∀ (r : List D) (i : Nat) (σ : Env) (S : Sto), xs.drop i = r → i ≤ xs.length → I i σ S → wpFor gs (forB c t ss rt nx ex) nx r σ S := by
    intro r
    induction r with
    | nil =>
      intro i σ S e hi h
      have : xs.length ≤ i := by
        have := congrArg List.length e
        simp at this
        omega
      have ei : i = xs.length := by omega
      subst ei
      exact ⟨hg _ _ _ (Nat.le_refl _) h, hd _ _ h⟩
    | cons x r ih =>
      intro i σ S e hi h
      have hx : xs[i]? = some x := by
        have := congrArg (fun l => l[0]?) e
        simpa using this
      have hlt := (List.getElem?_eq_some_iff.mp hx).1
      have hr : xs.drop (i + 1) = r := by
        have := congrArg List.tail e
        simpa using this
      refine ⟨hg _ _ _ hi h, ?_⟩
      have q := hs i x σ S hx h
      show (match asg t x σ with
        | some σ3 => wpSs c ss ⟨wpFor gs (forB c t ss rt nx ex) nx r, rt, nx, wpFor gs (forB c t ss rt nx ex) nx r, ex⟩ σ3 S
        | none => False)
      cases ha : asg t x σ with
      | none => rw [ha] at q; exact q
      | some σ' =>
        rw [ha] at q
        exact wpSs_mono hc _ q ⟨fun σ' S' z => ih (i + 1) σ' S' hr hlt z, fun _ _ z => z, fun _ _ z => z, fun σ' S' z => ih (i + 1) σ' S' hr hlt z, fun _ _ _ z => z⟩
  exact go xs 0 σ S rfl (Nat.zero_le _) h0
theorem for_nm {gs : List (Nat × List D)} {j : Nat} {xs : List D} (hc : CallMono c c) (I : Nat → Env → Sto → Prop) (h0 : I 0 σ S) (hg : ∀ i σ S, i ≤ xs.length → I i σ S → Gd gs S)
    (hs : ∀ i x σ S, xs[i]? = some x → I i σ S → wpSs c ss ⟨I (i + 1), rt, nx, I (i + 1), ex⟩ (σ.set j (some x)) S) (hd : ∀ σ S, I xs.length σ S → nx σ S) :
    wpFor gs (forB c (.nm j) ss rt nx ex) nx xs σ S := for_inv hc I h0 hg hs hd
theorem for_en {gs : List (Nat × List D)} {j k : Nat} {xs : List D} (hc : CallMono c c) (I : Nat → Env → Sto → Prop) (h0 : I 0 σ S) (hg : ∀ i σ S, i ≤ xs.length → I i σ S → Gd gs S)
    (hs : ∀ i x σ S, xs[i]? = some x → I i σ S → wpSs c ss ⟨I (i + 1), rt, nx, I (i + 1), ex⟩ ((σ.set j (some (.int (i : Nat)))).set k (some x)) S) (hd : ∀ σ S, I xs.length σ S → nx σ S) :
    wpFor gs (forB c (.tp [.nm j, .nm k]) ss rt nx ex) nx (enumD xs) σ S := by
  refine for_inv hc I h0 (fun i σ S hi => hg i σ S (by rw [enumD_len] at hi; exact hi)) (fun i x σ S hx h => ?_) (fun σ S h => hd σ S (by rw [enumD_len] at h; exact h))
  obtain ⟨y, hy, rfl⟩ := enumD_get hx
  exact hs i y σ S hy h
theorem rgD_get {n i : Nat} {x : D} (h : (rgD 0 (n : Int))[i]? = some x) : i < n ∧ x = .int (i : Nat) := by
  unfold rgD at h
  rw [List.getElem?_map] at h
  obtain ⟨m, hm, rfl⟩ := Option.map_eq_some_iff.mp h
  obtain ⟨hl, rfl⟩ := List.getElem?_eq_some_iff.mp hm
  rw [List.getElem_range]
  have : i < n := by simpa using hl
  exact ⟨this, by simp⟩
theorem rgD_len (n : Nat) : (rgD 0 (n : Int)).length = n := by unfold rgD; simp
theorem for_rg {j n : Nat} (hc : CallMono c c) (I : Nat → Env → Sto → Prop) (h0 : I 0 σ S)
    (hs : ∀ i σ S, i < n → I i σ S → wpSs c ss ⟨I (i + 1), rt, nx, I (i + 1), ex⟩ (σ.set j (some (.int (i : Nat)))) S) (hd : ∀ σ S, I n σ S → nx σ S) :
    wpFor [] (forB c (.nm j) ss rt nx ex) nx (rgD 0 (n : Int)) σ S := by
  refine for_inv hc I h0 (fun _ _ _ _ _ => gd_nil) (fun i x σ S hx h => ?_) (fun σ S h => hd σ S (by rw [rgD_len] at h; exact h))
  obtain ⟨hi, rfl⟩ := rgD_get hx
  exact hs i σ S hi h
theorem rg_ok {n : Nat} (h : n < 2 ^ 62) : RgB 0 (n : Int) := ⟨⟨by omega, by omega⟩, by omega, by omega⟩
theorem for_c {gs : List (Nat × List D)} {j : Nat} {x : D} {r : List D} (hg : Gd gs S) (h : wpSs c ss ⟨wpFor gs (forB c (.nm j) ss rt nx ex) nx r, rt, nx, wpFor gs (forB c (.nm j) ss rt nx ex) nx r, ex⟩ (σ.set j (some x)) S) : wpFor gs (forB c (.nm j) ss rt nx ex) nx (x :: r) σ S := ⟨hg, h⟩
theorem for_n {gs : List (Nat × List D)} {B : D → Env → Sto → (Env → Sto → Prop) → Prop} (hg : Gd gs S) (h : nx σ S) : wpFor gs B nx [] σ S := ⟨hg, h⟩
/-- a comprehension, by what holds ahead of each turn -/
theorem comp_inv {gs : List (Nat × List D)} {body : D → Sto → (Option D → Sto → Prop) → Prop} (hb : ∀ x S K K', body x S K → (∀ o S, K o S → K' o S) → body x S K') {R : List D → Sto → Prop} {xs : List D} (I : Nat → List D → Sto → Prop) (h0 : I 0 [] S) (hg : ∀ i acc S, i ≤ xs.length → I i acc S → Gd gs S)
    (hs : ∀ i x acc S, xs[i]? = some x → I i acc S → body x S fun o S' => match o with
      | some y => I (i + 1) (acc ++ [y]) S'
      | none => I (i + 1) acc S') (hd : ∀ acc S, I xs.length acc S → R acc S) : wpComp gs body xs S R := by
  have go : ∀ (r : List D) (i : Nat) (acc : List D) (S : Sto) (R' : List D → Sto → Prop), xs.drop i = r → i ≤ xs.length → I i acc S → (∀ ys S, I xs.length (acc ++ ys) S → R' ys S) → wpComp gs body r S R' := by
    intro r
    induction r with
    | nil =>
      intro i acc S R' e hi h hR
      have : xs.length ≤ i := by
        have := congrArg List.length e
        simp at this
        omega
      have ei : i = xs.length := by omega
      subst ei
      exact ⟨hg _ _ _ (Nat.le_refl _) h, hR [] _ (by rw [List.append_nil]; exact h)⟩
    | cons x r ih =>
      intro i acc S R' e hi h hR
      have hx : xs[i]? = some x := by
        have := congrArg (fun l => l[0]?) e
        simpa using this
      have hlt := (List.getElem?_eq_some_iff.mp hx).1
      have hr : xs.drop (i + 1) = r := by
        have := congrArg List.tail e
        simpa using this
      refine ⟨hg _ _ _ hi h, hb x S _ _ (hs i x acc S hx h) fun o S' z => ?_⟩
      cases o with
      | none => exact ih (i + 1) acc S' _ hr hlt z hR
      | some y => exact ih (i + 1) (acc ++ [y]) S' _ hr hlt z fun ys S q => hR (y :: ys) S (by simpa using q)
  exact go xs 0 [] S R rfl (Nat.zero_le _) h0 fun ys S q => hd ys S q
theorem comp_mono (hc : CallMono c c) {vs : List Nat} {t : Tg} {ifs : MXs} {elt : MX} : ∀ x S K K', cmpB c vs t ifs elt σ x S K → (∀ o S, K o S → K' o S) → cmpB c vs t ifs elt σ x S K' := by
  intro x S K K' h m
  revert h
  show (match asg t x (wipeE σ vs) with
        | some σ2 => wpIfs c ifs (fun _ _ => False) σ2 S fun k S3 => if k = true then wpE c elt (fun _ _ => False) σ2 S3 fun y S4 => K (some y) S4 else K none S3
        | none => False) → (match asg t x (wipeE σ vs) with
        | some σ2 => wpIfs c ifs (fun _ _ => False) σ2 S fun k S3 => if k = true then wpE c elt (fun _ _ => False) σ2 S3 fun y S4 => K' (some y) S4 else K' none S3
        | none => False)
  intro h
  split at h
  · refine wpIfs_mono hc _ h (fun k S3 q => ?_) fun _ _ z => z
    cases k with
    | true => exact wpE_mono hc _ q (fun y S4 q => m _ _ q) fun _ _ z => z
    | false => exact m _ _ q
  · exact h
theorem cmp_nm {vs : List Nat} {j : Nat} {ifs : MXs} {elt : MX} {x : D} {K : Option D → Sto → Prop} (h : wpIfs c ifs (fun _ _ => False) ((wipeE σ vs).set j (some x)) S fun k S3 => if k = true then wpE c elt (fun _ _ => False) ((wipeE σ vs).set j (some x)) S3 fun y S4 => K (some y) S4 else K none S3) : cmpB c vs (.nm j) ifs elt σ x S K := h
/-- a call's end -/
def fin (Q : KD) (E : Ex → Sto → Prop) : MP.Ends := ⟨fun _ S' => Q .non S', Q, fun _ _ => False, fun _ _ => False, fun x _ S' => E x S'⟩
/-- tests that are known; tests that fork -/
theorem d_t {p A B : Prop} [Decidable p] (h : p) (q : A) : if decide p = true then A else B := by rw [decide_eq_true h, if_pos rfl]; exact q
theorem d_f {p A B : Prop} [Decidable p] (h : ¬ p) (q : B) : if decide p = true then A else B := by rw [decide_eq_false h, if_neg Bool.false_ne_true]; exact q
theorem d_nt {p A B : Prop} [Decidable p] (h : ¬ p) (q : A) : if (!decide p) = true then A else B := by rw [decide_eq_false h]; exact q
theorem d_nf {p A B : Prop} [Decidable p] (h : p) (q : B) : if (!decide p) = true then A else B := by rw [decide_eq_true h]; exact q
theorem d_2 {p A B : Prop} [Decidable p] (h1 : p → A) (h2 : ¬ p → B) : if decide p = true then A else B := by
  by_cases h : p
  · exact d_t h (h1 h)
  · exact d_f h (h2 h)
theorem d_n2 {p A B : Prop} [Decidable p] (h1 : ¬ p → A) (h2 : p → B) : if (!decide p) = true then A else B := by
  by_cases h : p
  · exact d_nf h (h2 h)
  · exact d_nt h (h1 h)
theorem k_t {A B : Prop} (q : A) : if true = true then A else B := by rw [if_pos rfl]; exact q
theorem k_f {A B : Prop} (q : B) : if false = true then A else B := by rw [if_neg Bool.false_ne_true]; exact q
theorem k_T {b : Bool} {A B : Prop} (h : b = true) (q : A) : if b = true then A else B := by rw [if_pos h]; exact q
theorem k_F {b : Bool} {A B : Prop} (h : b = false) (q : B) : if b = true then A else B := by rw [h, if_neg Bool.false_ne_true]; exact q
theorem k_nt {A B : Prop} (q : B) : if (!true) = true then A else B := q
theorem k_nf {A B : Prop} (q : A) : if (!false) = true then A else B := q
end
/-! ### exceptions -/
section
variable {Pg : MP.Prog} {k : Nat} {c : CallT} {E : Ex → Sto → Prop} {σ : Env} {S : Sto} {Q : KD} {nx bk ct : Env → Sto → Prop} {rt : KD} {ex : Ex → Env → Sto → Prop}
theorem s_rais {cl : Nat} {e : MX} (hp : Pg[exLev]? = none) (q : wpE (callM Pg (k + 2)) e (fun x S' => ex x σ S') σ S fun v S1 => ex ⟨cl, v⟩ σ S1) : wpS (callM Pg (k + 2)) (.rais cl e) ⟨nx, rt, bk, ct, ex⟩ σ S := by
  unfold wpS
  simp only [callM, hp]
  exact ⟨trivial, by omega, trivial, q⟩
theorem s_tri {b : MSs} {i : Nat} {ok : List (Nat × Str)} {s : MSs} (q : wpSs c b ⟨nx, rt, bk, ct, fun x σ' S' => match ok.lookup x.c with
      | some f => ∀ a dd : Addr, wpSs (withEx a dd f x c) s ⟨fun σ2 S2 => nx (σ2.set i none) S2, rt, fun σ2 S2 => bk (σ2.set i none) S2, fun σ2 S2 => ct (σ2.set i none) S2, fun _ _ _ => False⟩ (σ'.set i (some (.exc a dd f x.f))) S'
      | none => ex x σ' S'⟩ σ S) : wpS c (.tri b i ok s) ⟨nx, rt, bk, ct, ex⟩ σ S := by unfold wpS; exact q
theorem e_xis {a dd : Addr} {f : Str} {x : Ex} {i : Nat} {ns : List D} {b : Bool} (h : σ[i]? = some (some (.exc a dd f x.f))) (hb : inF (.int x.c) ns = b) (q : Q (.bl b) S) : wpE (withEx a dd f x c) (.call exIs (.cons (.var i) (.cons (.cst (.tup ns)) .nil))) E σ S Q := by
  refine e_call (es_cons (e_var h (es_cons (e_cst (es_nil ?_)))))
  unfold withEx
  rw [if_pos rfl]
  exact ⟨ns, rfl, by rw [hb]; exact q⟩
theorem e_xfld {a dd : Addr} {f : Str} {x : Ex} {i : Nat} (h : σ[i]? = some (some (.exc a dd f x.f))) (q : Q x.f S) : wpE (withEx a dd f x c) (.call exFld (.cons (.var i) (.cons (.str f) .nil))) E σ S Q := by
  refine e_call (es_cons (e_var h (es_cons (e_str (es_nil ?_)))))
  unfold withEx
  rw [if_neg (by decide), if_pos rfl]
  exact ⟨rfl, q⟩
end
/-! ### dicts of nested tuples -/
section
variable {S : Sto} {Q : KD} {c : CallT} {E : Ex → Sto → Prop} {σ : Env} {a b : MX}
theorem nd_inI {x : D} {r : Nat} {fz : Bool} {kvs : List (NestedKey × D)} {k : NestedKey} (h : S[r]? = some (.nd fz kvs)) (hk : ndKey x = some k) (q : Q (.bl (dGet kvs k).isSome) S) : wpCmp .isin x (.ref r) S Q := by
  have e : wpCmp .isin x (.ref r) S Q = wpIn false x (.ref r) S Q := by cases x <;> rfl
  rw [e]
  simp only [wpIn, h, hk]
  rw [xorF]
  exact q
theorem nd_nin {x : D} {r : Nat} {fz : Bool} {kvs : List (NestedKey × D)} {k : NestedKey} (h : S[r]? = some (.nd fz kvs)) (hk : ndKey x = some k) (q : Q (.bl (!(dGet kvs k).isSome)) S) : wpCmp .notin x (.ref r) S Q := by
  have e : wpCmp .notin x (.ref r) S Q = wpIn true x (.ref r) S Q := by cases x <;> rfl
  rw [e]
  simp only [wpIn, h, hk]
  rw [xorT]
  exact q
theorem nd_ix {y v : D} {r : Nat} {fz : Bool} {kvs : List (NestedKey × D)} {k : NestedKey} (h0 : S[r]? = some (.nd fz kvs)) (hk : ndKey y = some k) (h : dGet kvs k = some v) (q : Q v S) : wpIx (.ref r) y S Q := by
  show (match S[r]?.bind fun o => ixO o y with | some v => Q v S | none => False)
  rw [h0]
  show (match (ndKey y).bind fun k => dGet kvs k with | some v => Q v S | none => False)
  rw [hk]
  show (match dGet kvs k with | some v => Q v S | none => False)
  rw [h]
  exact q
theorem nd_set {ys : List D} {v : D} {r : Nat} {kvs : List (NestedKey × D)} {k : NestedKey} {R : Sto → Prop} (h : S[r]? = some (.nd false kvs)) (hk : ndKey (.tup ys) = some k) (hl : kvs.length < sizeLine) (q : R (S.set r (.nd false (dPut kvs k v)))) : wpSet (.ref r) (.tup ys) v S R := by
  simp only [wpSet, h, hk]
  exact ⟨hl, q⟩
theorem e_ddisN (q : wpE c a E σ S fun x S1 => wpE c b E σ S1 fun y S2 => match ndKey x with
    | some k => Q (.ref S2.length) (S2 ++ [.nd false [(k, y)]])
    | none => False) : wpE c (.ddisN a b) E σ S Q := by unfold wpE; exact q
theorem e_compN {vs : List Nat} {t : Tg} {i r : Nat} {ifs : MXs} {elt : MX} {kvs : List (NestedKey × D)} (h : σ[i]? = some (some (.ref r))) (h2 : S[r]? = some (.nd false kvs)) (hz : kvs.length ≤ sizeLine)
    (q : wpComp [] (cmpB c vs t ifs elt σ) (kvs.map fun kv => nkD kv.1) (S.set r (.nd true kvs)) fun ys S2 => S2[r]? = some (.nd true kvs) ∧ Q (.ref S2.length) (S2.set r (.nd false kvs) ++ [.lst ys])) : wpE c (.compN vs t i ifs elt) E σ S Q := by
  unfold wpE
  rw [h]
  dsimp only
  rw [h2]
  exact ⟨hz, q⟩
end
end MP
/-! MPBits: sets of places as numbers; plain mathematics. -/
namespace MP
open PySem PySem.Spec PyProof.Rows L2

def maskN : List Nat → Nat
  | [] => 0
  | p :: r => 2 ^ p ||| maskN r
def bits (m n : Nat) : List Nat := (List.range n).filter fun i => m.testBit i
theorem tb_maskN : ∀ (ps : List Nat) (i : Nat), (maskN ps).testBit i = decide (i ∈ ps)
  | [], i => by simp [maskN]
  | p :: r, i => by
    rw [maskN, Nat.testBit_or, tb_maskN r, Nat.testBit_two_pow]
    by_cases h : p = i
    · subst h; simp
    · simp [h, Ne.symm h, eq_comm]
theorem maskN_eq {ps qs : List Nat} (h : ∀ i, i ∈ ps ↔ i ∈ qs) : maskN ps = maskN qs := by
  apply Nat.eq_of_testBit_eq
  intro i
  rw [tb_maskN, tb_maskN]
  exact decide_eq_decide.mpr (h i)
theorem maskN_inj {ps qs : List Nat} (h : maskN ps = maskN qs) : ∀ i, i ∈ ps ↔ i ∈ qs := by
  intro i
  have := congrArg (fun m => m.testBit i) h
  simp only [tb_maskN] at this
  exact decide_eq_decide.mp this
theorem maskN_lt {ps : List Nat} {n : Nat} (h : ∀ p ∈ ps, p < n) : maskN ps < 2 ^ n := by
  apply Nat.lt_pow_two_of_testBit
  intro i hi
  rw [tb_maskN]
  exact decide_eq_false fun z => absurd (h i z) (by omega)
theorem mem_bits {m n i : Nat} : i ∈ bits m n ↔ i < n ∧ m.testBit i = true := by
  unfold bits
  rw [List.mem_filter, List.mem_range]
theorem maskN_bits {m n : Nat} (h : m < 2 ^ n) : maskN (bits m n) = m := by
  apply Nat.eq_of_testBit_eq
  intro i
  rw [tb_maskN]
  by_cases hb : m.testBit i = true
  · rw [hb]
    refine decide_eq_true (mem_bits.mpr ⟨?_, hb⟩)
    apply Classical.byContradiction
    intro hn
    have : m < 2 ^ i := Nat.lt_of_lt_of_le h (Nat.pow_le_pow_right (by decide) (by omega))
    rw [Nat.testBit_lt_two_pow this] at hb
    cases hb
  · rw [Bool.not_eq_true] at hb
    rw [hb]
    exact decide_eq_false fun z => by have := (mem_bits.mp z).2; rw [hb] at this; cases this
theorem filter_mem_of_sub {l : List Nat} : ∀ {l' : List Nat}, l.Sublist l' → l'.Nodup → l'.filter (fun i => decide (i ∈ l)) = l := by
  intro l' h
  induction h with
  | slnil => intro _; rfl
  | @cons l₁ l₂ a s ih =>
    intro nd
    rw [List.nodup_cons] at nd
    have na : a ∉ l₁ := fun z => nd.1 (s.subset z)
    rw [List.filter_cons_of_neg (by simpa using na)]
    exact ih nd.2
  | @cons_cons l₁ l₂ a s ih =>
    intro nd
    rw [List.nodup_cons] at nd
    rw [List.filter_cons_of_pos (by simp)]
    congr 1
    have e : l₂.filter (fun i => decide (i ∈ a :: l₁)) = l₂.filter (fun i => decide (i ∈ l₁)) := by
      apply List.filter_congr
      intro x hx
      have : x ≠ a := fun z => nd.1 (z ▸ hx)
      simp [this]
    rw [e]
    exact ih nd.2
theorem bits_maskN {ps : List Nat} {n : Nat} (h : ps.Sublist (List.range n)) : bits (maskN ps) n = ps := by
  unfold bits
  have : (fun i => (maskN ps).testBit i) = fun i => decide (i ∈ ps) := funext fun i => tb_maskN ps i
  rw [this]
  exact filter_mem_of_sub h List.nodup_range
theorem or_eq_add {a b : Nat} (h : a &&& b = 0) : a ||| b = a + b := by
  have e := bitOr_and (a : Int) (b : Int)
  rw [L2.bitOr_nn (Int.natCast_nonneg _) (Int.natCast_nonneg _), bitAnd_pp (Int.natCast_nonneg _) (Int.natCast_nonneg _)] at e
  simp only [Int.toNat_natCast, h] at e
  omega
theorem maskN_sum : ∀ {ps : List Nat}, ps.Nodup → (ps.map (2 ^ ·)).sum = maskN ps
  | [], _ => rfl
  | p :: r, h => by
    rw [List.nodup_cons] at h
    rw [List.map_cons, List.sum_cons, maskN_sum h.2, maskN]
    refine (or_eq_add ?_).symm
    apply Nat.eq_of_testBit_eq
    intro i
    rw [Nat.testBit_and, tb_maskN, Nat.testBit_two_pow, Nat.zero_testBit]
    by_cases e : p = i
    · subst e; simp [h.1]
    · simp [e]
theorem top_bit {x q : Nat} (h1 : 2 ^ q ≤ x) (h2 : x < 2 ^ (q + 1)) : x.testBit q = true := by
  rw [Nat.testBit_eq_decide_div_mod_eq]
  have e : x / 2 ^ q = 1 := by
    apply Nat.div_eq_of_lt_le
    · omega
    · rw [Nat.pow_succ] at h2; omega
  rw [e]
  rfl
theorem and_pred {m : Nat} (h : 0 < m) (e : m &&& (m - 1) = 0) : ∃ q, m = 2 ^ q := by
  refine ⟨m.log2, ?_⟩
  have h1 : 2 ^ m.log2 ≤ m := Nat.log2_self_le (by omega)
  have h2 : m < 2 ^ (m.log2 + 1) := Nat.lt_log2_self
  apply Classical.byContradiction
  intro n
  have t1 := top_bit h1 h2
  have t2 := top_bit (x := m - 1) (q := m.log2) (by omega) (by omega)
  have := congrArg (fun x => x.testBit m.log2) e
  simp only [Nat.testBit_and, t1, t2, Nat.zero_testBit] at this
  cases this
theorem pow_pred (p : Nat) : 2 ^ p &&& (2 ^ p - 1) = 0 := by
  rw [Nat.and_two_pow_sub_one_eq_mod, Nat.mod_self]
theorem single_iff {ps : List Nat} (nd : ps.Nodup) : (0 < maskN ps ∧ maskN ps &&& (maskN ps - 1) = 0) ↔ ps.length = 1 := by
  constructor
  · rintro ⟨h1, h2⟩
    obtain ⟨q, hq⟩ := and_pred h1 h2
    have hm : ∀ i, i ∈ ps ↔ i = q := fun i => by
      have := congrArg (fun x => x.testBit i) hq
      simp only [tb_maskN, Nat.testBit_two_pow] at this
      rw [decide_eq_decide] at this
      rw [this]
      exact eq_comm
    match ps, nd, hm with
    | [], _, hm => exact absurd ((hm q).mpr rfl) (by simp)
    | [x], _, _ => rfl
    | x :: y :: r, nd, hm =>
      have e1 := (hm x).mp (by simp)
      have e2 := (hm y).mp (by simp)
      rw [List.nodup_cons] at nd
      exact absurd (by rw [e1, ← e2]; simp) nd.1
  · intro h
    match ps, h with
    | [p], _ =>
      have e : maskN [p] = 2 ^ p := by simp [maskN]
      rw [e]
      exact ⟨Nat.two_pow_pos p, pow_pred p⟩
theorem full_maskN (n : Nat) : 2 ^ n - 1 = maskN (List.range n) := by
  apply Nat.eq_of_testBit_eq
  intro i
  rw [tb_maskN, Nat.testBit_two_pow_sub_one]
  simp
theorem less_maskN {ps : List Nat} {n : Nat} (h : ∀ p ∈ ps, p < n) : 2 ^ n - 1 - maskN ps = maskN ((List.range n).filter fun i => !decide (i ∈ ps)) := by
  have hl := maskN_lt h
  apply Nat.eq_of_testBit_eq
  intro i
  have e : 2 ^ n - 1 - maskN ps = 2 ^ n - (maskN ps + 1) := by omega
  rw [e, Nat.testBit_two_pow_sub_succ hl, tb_maskN, tb_maskN]
  by_cases h1 : i < n <;> by_cases h2 : i ∈ ps <;> simp [h1, h2]
theorem and_maskN (ps qs : List Nat) : maskN ps &&& maskN qs = maskN (ps.filter fun i => decide (i ∈ qs)) := by
  apply Nat.eq_of_testBit_eq
  intro i
  rw [Nat.testBit_and, tb_maskN, tb_maskN, tb_maskN]
  by_cases h1 : i ∈ ps <;> by_cases h2 : i ∈ qs <;> simp [h1, h2]
theorem or_maskN {ps qs : List Nat} {n : Nat} (h1 : ∀ p ∈ ps, p < n) (h2 : ∀ p ∈ qs, p < n) : maskN ps ||| maskN qs = maskN ((List.range n).filter fun i => decide (i ∈ ps) || decide (i ∈ qs)) := by
  apply Nat.eq_of_testBit_eq
  intro i
  rw [Nat.testBit_or, tb_maskN, tb_maskN, tb_maskN]
  by_cases a : i ∈ ps
  · simp [a, h1 i a]
  · by_cases b : i ∈ qs
    · simp [a, b, h2 i b]
    · simp [a, b]
theorem sub_lt {ps : List Nat} {n : Nat} (h : ps.Sublist (List.range n)) : ∀ p ∈ ps, p < n := fun p hp => List.mem_range.mp (h.subset hp)
theorem sub_nodup {ps : List Nat} {n : Nat} (h : ps.Sublist (List.range n)) : ps.Nodup := h.nodup List.nodup_range
end MP
/-! MPDraw: the numbers that a law draws from its script. -/
namespace MP
open PySem PySem.Spec PyProof.Rows L2
local macro_rules | `(tactic| walk_at "look") => `(tactic| first | assumption | exact g_last | (with_reducible apply g_set; walk_at "look") | ((with_reducible refine g_setn ?h1 ?h2); (case h1 => first | assumption | omega | (apply Ne.symm; assumption)); (case h2 => walk_at "look")) | ((with_reducible refine g_app ?_); walk_at "look") | ((with_reducible refine' Fr.get ?h1 ?h2 ?h3); (case h1 => assumption); (case h2 => first | assumption | omega | (apply Ne.symm; assumption)); (case h3 => walk_at "look")) | ((with_reducible refine' Ch.get ?h1 ?h2 ?h3); (case h1 => assumption); (case h2 => first | assumption | (simp; done) | (simp only [List.mem_cons, List.not_mem_nil, or_false, not_or]; omega)); (case h3 => walk_at "look")))
local macro_rules | `(tactic| walk_at "kn") => `(tactic| first | assumption | omega | (simp; done) | decide)
local macro_rules | `(tactic| walk_at "sz") => `(tactic| first | assumption | (rw [sizeLine_eq]; first | omega | (simp; done) | (simp; omega)))
local macro_rules | `(tactic| walk_at "at") => `(tactic| first | exact rfl | assumption)
local macro_rules | `(tactic| walk_at "mp1") => `(tactic| first
  | with_reducible refine s_cons ?_ | with_reducible refine s_nil ?_ | with_reducible refine s_nm ?_ | with_reducible refine s_ix ?_ | with_reducible refine s_asg ?_ | with_reducible refine s_ex ?_ | with_reducible refine s_iff ?_ | with_reducible refine s_ret ?_ | with_reducible refine s_for ?_
  | ((with_reducible refine' e_var ?h1 ?_); (case h1 => exact rfl)) | with_reducible refine e_int ?_ | with_reducible refine e_bin ?_ | with_reducible refine e_cmp ?_ | with_reducible refine e_ix ?_ | with_reducible refine e_call ?_ | with_reducible refine e_blt ?_ | with_reducible refine e_bl ?_ | with_reducible refine e_and ?_ | with_reducible refine e_or ?_ | with_reducible refine e_not ?_ | with_reducible refine e_ite ?_
  | with_reducible refine es_cons ?_ | with_reducible refine es_nil ?_ | with_reducible refine e_tup ?_ | with_reducible refine e_lst ?_ | with_reducible refine e_meth ?_ | with_reducible refine e_comp ?_ | with_reducible refine e_sl ?_ | with_reducible refine e_neg ?_ | with_reducible refine e_isi ?_ | with_reducible refine e_lrg ?_ | with_reducible refine e_trg ?_ | with_reducible refine e_non ?_ | with_reducible refine e_str ?_ | with_reducible refine e_fnv ?_ | with_reducible refine e_orl ?_ | with_reducible refine e_dnew ?_ | with_reducible refine e_dget ?_ | with_reducible refine e_dget2 ?_
  | with_reducible refine o_no ?_ | with_reducible refine o_so ?_ | with_reducible refine i_rng ?_ | with_reducible refine i_seq ?_ | with_reducible refine i_enum ?_ | with_reducible refine i_rngD ?_ | with_reducible refine if_nil ?_ | with_reducible refine if_cons ?_ | with_reducible refine rg_1 ?_ | with_reducible refine rg_2 ?_
  | with_reducible refine b_add ?_ | with_reducible refine b_sub ?_ | ((with_reducible refine' b_mul ?h1 ?_); (case h1 => first | assumption | mul_fits)) | ((with_reducible refine' b_fdiv ?h1 ?h2 ?_); (case h1 => walk_at "kn"); (case h2 => first | assumption | decide)) | ((with_reducible refine' b_mod ?h1 ?_); (case h1 => walk_at "kn")) | ((with_reducible refine' b_pow ?h1 ?_); (case h1 => first | assumption | exact ⟨by decide, by decide, by decide⟩)) | ((with_reducible refine' b_shr ?h1 ?_); (case h1 => walk_at "kn")) | ((with_reducible refine' b_shl ?h1 ?_); (case h1 => assumption)) | with_reducible refine b_and ?_ | with_reducible refine b_or ?_ | with_reducible refine b_xor ?_
  | with_reducible refine c_lt ?_ | with_reducible refine c_le ?_ | with_reducible refine c_gt ?_ | with_reducible refine c_ge ?_ | with_reducible refine c_eqi ?_ | with_reducible refine c_nei ?_ | with_reducible refine c_eqb ?_ | with_reducible refine c_neb ?_ | with_reducible refine c_eqs ?_ | with_reducible refine c_nes ?_
  | with_reducible refine t_bl ?_ | with_reducible refine t_int ?_ | with_reducible refine t_tup ?_ | with_reducible refine t_non ?_
  | ((with_reducible refine' x_ref ?h1 ?h2 ?_); (case h1 => walk_at "look"); (case h2 => walk_at "at")) | ((with_reducible refine' x_tup ?h1 ?_); (case h1 => walk_at "at")) | ((with_reducible refine' x_klst ?h1 ?_); (case h1 => walk_at "at"))
  | ((with_reducible refine' set_ref ?h1 ?h2 ?_); (case h1 => walk_at "look"); (case h2 => walk_at "at"))
  | ((with_reducible refine' f_lenr ?h1 ?_); (case h1 => walk_at "look")) | with_reducible refine f_lent ?_ | with_reducible refine f_lenk ?_ | with_reducible refine f_int ?_ | ((with_reducible refine' f_listr ?h1 ?_); (case h1 => walk_at "look")) | with_reducible refine f_listt ?_ | with_reducible refine f_listk ?_ | ((with_reducible refine' f_tupr ?h1 ?_); (case h1 => walk_at "look")) | with_reducible refine f_tupt ?_ | with_reducible refine f_max ?_ | with_reducible refine f_min ?_
  | with_reducible refine sl_klst ?_ | ((with_reducible refine' sl_ref ?h1 ?_); (case h1 => walk_at "look")) | with_reducible refine sl_tup ?_
  | ((with_reducible refine' m_app ?h1 ?h2 ?_); (case h1 => walk_at "look"); (case h2 => walk_at "sz")) | ((with_reducible refine' m_ext ?h1 ?h2 ?h3 ?_); (case h1 => walk_at "look"); (case h2 => walk_at "look"); (case h3 => walk_at "sz")) | ((with_reducible refine' m_extT ?h1 ?h3 ?_); (case h1 => walk_at "look"); (case h3 => walk_at "sz"))
  | with_reducible refine k_t ?_ | with_reducible refine k_f ?_ | with_reducible refine k_nt ?_ | with_reducible refine k_nf ?_
  | ((with_reducible refine' d_t ?h1 ?_); (case h1 => first | assumption | omega)) | ((with_reducible refine' d_f ?h1 ?_); (case h1 => first | assumption | omega)) | ((with_reducible refine' d_nt ?h1 ?_); (case h1 => first | assumption | omega)) | ((with_reducible refine' d_nf ?h1 ?_); (case h1 => first | assumption | omega))
  | ((with_reducible refine' And.intro (r_lst ?h1 ?h2) ?_); (case h1 => decide); (case h2 => walk_at "look")) | (with_reducible refine And.intro r_int ?_)
  | ((with_reducible refine And.intro ?h1 ?_); (case h1 => (with_reducible show List.length _ ≤ sizeLine); walk_at "sz"))
  | dsimp only
  | dsimp only [isTy_int, isTy_bl, isTy_str, isTy_non, isTy_tup])
local macro_rules | `(tactic| walk_at "mp") => `(tactic| repeat walk_at "mp1")
local macro_rules | `(tactic| walk_at "tx1") => `(tactic| first
  | walk_at "mp1"
  | with_reducible refine e_cst ?_ | ((with_reducible refine' f_lens ?h1 ?_); (case h1 => walk_at "sz"))
  | ((with_reducible refine' x_str ?h1 ?h2 ?_); (case h1 => walk_at "sz"); (case h2 => walk_at "at"))
  | ((with_reducible refine' sl_str' ?h1 ?_); (case h1 => walk_at "sz")))
local macro_rules | `(tactic| walk_at "tx") => `(tactic| repeat walk_at "tx1")

/-- only a may have changed; more may stand behind -/
structure Fr (a : Nat) (S S' : Sto) : Prop where
  le : S.length ≤ S'.length
  eq : ∀ i, i < S.length → i ≠ a → S'[i]? = S[i]?
theorem Fr.refl {a : Nat} {S : Sto} : Fr a S S := ⟨Nat.le_refl _, fun _ _ _ => rfl⟩
theorem Fr.trans {a : Nat} {S S1 S2 : Sto} (h : Fr a S S1) (h' : Fr a S1 S2) : Fr a S S2 := ⟨Nat.le_trans h.le h'.le, fun i hi n => (h'.eq i (Nat.lt_of_lt_of_le hi h.le) n).trans (h.eq i hi n)⟩
theorem Fr.get {a i : Nat} {S S' : Sto} {o : O} (h : Fr a S S') (n : i ≠ a) (e : S[i]? = some o) : S'[i]? = some o := (h.eq i (g_lt e) n).trans e
theorem Fr.app {a : Nat} {S : Sto} {l : List O} : Fr a S (S ++ l) := ⟨by simp, fun i hi _ => by rw [List.getElem?_append_left hi]⟩
theorem Fr.set {a : Nat} {S : Sto} {o : O} : Fr a S (S.set a o) := ⟨by simp, fun i hi n => by rw [List.getElem?_set_ne (Ne.symm n)]⟩
/-- a cell that is younger than S -/
theorem Fr.setn {a i : Nat} {S S' : Sto} {o : O} (h : Fr a S S') (n : S.length ≤ i) : Fr a S (S'.set i o) := ⟨by simpa using h.le, fun j hj m => by rw [List.getElem?_set_ne (by omega)]; exact h.eq j hj m⟩
theorem Fr.appn {a : Nat} {S S' : Sto} {l : List O} (h : Fr a S S') : Fr a S (S' ++ l) := h.trans Fr.app

/-- only what is in X may have changed; more may stand behind -/
structure Ch (X : List Nat) (S S' : Sto) : Prop where
  le : S.length ≤ S'.length
  eq : ∀ i, i < S.length → i ∉ X → S'[i]? = S[i]?
section
variable {X Y : List Nat} {S S' S1 : Sto}
theorem Ch.refl : Ch X S S := ⟨Nat.le_refl _, fun _ _ _ => rfl⟩
theorem Ch.trans (h : Ch X S S1) (h' : Ch X S1 S') : Ch X S S' := ⟨Nat.le_trans h.le h'.le, fun i hi n => (h'.eq i (Nat.lt_of_lt_of_le hi h.le) n).trans (h.eq i hi n)⟩
theorem Ch.get {i : Nat} {o : O} (h : Ch X S S') (n : i ∉ X) (e : S[i]? = some o) : S'[i]? = some o := (h.eq i (g_lt e) n).trans e
theorem Ch.app {l : List O} (h : Ch X S S') : Ch X S (S' ++ l) := h.trans ⟨by simp, fun i hi _ => by rw [List.getElem?_append_left hi]⟩
theorem Ch.set {i : Nat} {o : O} (h : Ch X S S') (n : i ∈ X) : Ch X S (S'.set i o) := h.trans ⟨by simp, fun j hj m => by rw [List.getElem?_set_ne (show i ≠ j from fun z => m (z ▸ n))]⟩
theorem Ch.setn {i : Nat} {o : O} (h : Ch X S S') (n : S.length ≤ i) : Ch X S (S'.set i o) := ⟨by simpa using h.le, fun j hj m => by rw [List.getElem?_set_ne (by omega)]; exact h.eq j hj m⟩
theorem Ch.mono (h : Ch X S S') (m : ∀ i ∈ X, i ∈ Y) : Ch Y S S' := ⟨h.le, fun i hi n => h.eq i hi fun z => n (m i z)⟩
theorem Ch.of {a : Nat} (h : Fr a S S') (m : a ∈ X) : Ch X S S' := ⟨h.le, fun i hi n => h.eq i hi fun z => n (z ▸ m)⟩
end
/-- the drawing list at a, the script's copy at b -/
structure DS (S : Sto) (a b : Nat) : Prop where
  ne : a ≠ b
  ex : ∃ (x y z w : Int) (ns : List Int), S[a]? = some (.lst [.int x, .int y, .int z, .int w, .ref b]) ∧ S[b]? = some (.lst (ns.map .int)) ∧ (0 ≤ x ∧ x < 2147483647) ∧ 0 ≤ y ∧ 0 ≤ z ∧ 0 ≤ w
theorem DS.keep {S S' : Sto} {a b : Nat} (h : DS S a b) (e1 : S'[a]? = S[a]?) (e2 : S'[b]? = S[b]?) : DS S' a b := by
  obtain ⟨n, x, y, z, w, ns, h1, h2, h3⟩ := h
  exact ⟨n, x, y, z, w, ns, e1.trans h1, e2.trans h2, h3⟩
theorem DS.lta {S : Sto} {a b : Nat} (h : DS S a b) : a < S.length := by
  obtain ⟨n, x, y, z, w, ns, h1, h2, h3⟩ := h
  exact g_lt h1
theorem DS.ltb {S : Sto} {a b : Nat} (h : DS S a b) : b < S.length := by
  obtain ⟨n, x, y, z, w, ns, h1, h2, h3⟩ := h
  exact g_lt h2
theorem DS.ch {S S' : Sto} {a b : Nat} {X : List Nat} (h : DS S a b) (e : Ch X S S') (n : a ∉ X) (m : b ∉ X) : DS S' a b := h.keep (e.eq a h.lta n) (e.eq b h.ltb m)
theorem DS.app {S : Sto} {a b : Nat} {l : List O} (h : DS S a b) : DS (S ++ l) a b := h.keep (List.getElem?_append_left h.lta) (List.getElem?_append_left h.ltb)
theorem DS.setn {S : Sto} {a b i : Nat} {o : O} (h : DS S a b) (n : i ≠ a) (m : i ≠ b) : DS (S.set i o) a b := h.keep (List.getElem?_set_ne n) (List.getElem?_set_ne m)

def bDraw : MSs :=
  (.cons (.iff (.cmp .lt (.var 1) (.int 2))
    (.cons (.ret (.int 0)) .nil)
    .nil) (.cons (.iff (.and (.cmp .eq (.ix (.var 0) (.int 1)) (.int 0)) (.cmp .lt (.ix (.var 0) (.int 2)) (.blt .len (.cons (.ix (.var 0) (.int 4)) .nil))))
    (.cons (.asg (.tg (.nm 2)) (.ix (.ix (.var 0) (.int 4)) (.ix (.var 0) (.int 2)))) (.cons (.asg (.ix (.var 0) (.int 2)) (.bin .add (.ix (.var 0) (.int 2)) (.int 1))) (.cons (.asg (.tg (.nm 3)) (.ite (.cmp .ge (.var 2) (.int 0)) (.var 2) (.neg (.var 2)))) (.cons (.iff (.cmp .ge (.var 3) (.bin .pow (.int 10) (.int 18)))
    (.cons (.asg (.ix (.var 0) (.int 1)) (.var 3)) .nil)
    (.cons (.asg (.ix (.var 0) (.int 0)) (.bin .mod (.blt .int (.cons (.bin .add (.bin .add (.bin .mul (.ix (.var 0) (.int 0)) (.int 69621)) (.bin .mul (.var 3) (.int 48271))) (.int 12345)) .nil)) (.int 2147483647))) .nil)) .nil))))
    .nil) (.cons (.iff (.cmp .gt (.ix (.var 0) (.int 1)) (.int 0))
    (.cons (.asg (.tg (.nm 4)) (.bin .mod (.blt .int (.cons (.ix (.var 0) (.int 1)) .nil)) (.var 1))) (.cons (.asg (.ix (.var 0) (.int 1)) (.bin .fdiv (.ix (.var 0) (.int 1)) (.var 1))) (.cons (.ret (.var 4)) .nil)))
    .nil) (.cons (.asg (.ix (.var 0) (.int 3)) (.bin .add (.ix (.var 0) (.int 3)) (.int 1))) (.cons (.asg (.ix (.var 0) (.int 0)) (.bin .mod (.blt .int (.cons (.bin .add (.bin .add (.bin .mul (.ix (.var 0) (.int 0)) (.int 48271)) (.bin .mul (.ix (.var 0) (.int 3)) (.int 7919))) (.int 11)) .nil)) (.int 2147483647))) (.cons (.asg (.tg (.nm 5)) (.bin .mod (.blt .int (.cons (.bin .add (.bin .mul (.ix (.var 0) (.int 0)) (.ix (.var 0) (.int 0))) (.ix (.var 0) (.int 3))) .nil)) (.int 2147483629))) (.cons (.ret (.bin .mod (.blt .int (.cons (.bin .fdiv (.var 5) (.int 7)) .nil)) (.var 1))) .nil)))))))
theorem atI_ints {ns : List Int} {z : Int} (h0 : 0 ≤ z) (h1 : z < (ns.length : Int)) : ∃ v, atI (ns.map D.int) z = some (D.int v) := by
  obtain ⟨n, rfl⟩ := Int.eq_ofNat_of_zero_le h0
  have hn : n < ns.length := by omega
  exact ⟨ns[n], atI_nat (by rw [List.getElem?_map, List.getElem?_eq_getElem hn]; rfl)⟩
theorem mul_small {i j : Int} (h0 : 0 ≤ i) (h1 : i < 2147483647) : IntMulOk i j := CMul.ok (.inl ⟨by omega, by omega⟩)
theorem log2_small {j : Int} (h : j.natAbs < 2 ^ 9000) : j.natAbs.log2 < 9000 := PySem.Flt.log2_lt_of (by decide) h

def dTail : MSs := (match bDraw with
  | .cons _ (.cons _ r) => r
  | _ => .nil)
set_option maxHeartbeats 4000000 in
theorem draw_tail {c : CallT} {a b : Nat} {x y z w many : Int} {ns : List Int} {S : Sto} {Q : KD} {E : Ex → Sto → Prop} {s2 s3 : Option D} (ha : S[a]? = some (.lst [.int x, .int y, .int z, .int w, .ref b])) (hb : S[b]? = some (.lst (ns.map .int))) (hm : 2 ≤ many) (hM : many.natAbs.log2 < 9000) (hab : a ≠ b) (hx : 0 ≤ x ∧ x < 2147483647) (hy : 0 ≤ y) (hz : 0 ≤ z) (hw : 0 ≤ w)
    (q : ∀ r x' y' w', 0 ≤ r → r < many → (0 ≤ x' ∧ x' < 2147483647) → 0 ≤ y' → 0 ≤ w' → Q (.int r) (S.set a (.lst [.int x', .int y', .int z, .int w', .ref b]))) :
    wpSs c dTail ⟨fun _ S' => Q .non S', Q, fun _ _ => False, fun _ _ => False, fun x _ S' => E x S'⟩ [some (.ref a), some (.int many), s2, s3, none, none] S := by
  have hm0 : 0 < many := by omega
  have r1 := Int.emod_nonneg y (show many ≠ 0 by omega)
  have r2 := Int.emod_lt_of_pos y hm0
  have lt : a < S.length := g_lt ha
  unfold dTail bDraw
  dsimp only
  walk_at "mp"
  refine d_2 (fun hy0 => ?_) fun hy0 => ?_
  · walk_at "mp"
    refine q (y % many) x (y / many) w r1 r2 hx (Int.ediv_nonneg hy (by omega)) hw
  · have b1 := Int.emod_nonneg (x * 48271 + (w + 1) * 7919 + 11) (show (2147483647 : Int) ≠ 0 by decide)
    have b2 := Int.emod_lt_of_pos (x * 48271 + (w + 1) * 7919 + 11) (show (0 : Int) < 2147483647 by decide)
    have ms : IntMulOk ((x * 48271 + (w + 1) * 7919 + 11) % 2147483647) ((x * 48271 + (w + 1) * 7919 + 11) % 2147483647) := mul_small b1 b2
    walk_at "mp"
    rw [List.set_set]
    exact q _ _ y (w + 1) (Int.emod_nonneg _ (by omega)) (Int.emod_lt_of_pos _ hm0) ⟨b1, b2⟩ hy (by omega)

set_option maxHeartbeats 4000000 in
theorem draw_ok {c : CallT} {a b : Nat} {many : Int} {S : Sto} {Q : KD} {E : Ex → Sto → Prop} (h : DS S a b) (hM : many.natAbs.log2 < 9000)
    (q : ∀ r S', 0 ≤ r → (r = 0 ∨ r < many) → DS S' a b → Fr a S S' → S'.length = S.length → Q (.int r) S') :
    wpSs c bDraw ⟨fun _ S' => Q .non S', Q, fun _ _ => False, fun _ _ => False, fun x _ S' => E x S'⟩ [some (.ref a), some (.int many), none, none, none, none] S := by
  have h0 := h
  obtain ⟨hab, x, y, z, w, ns, ha, hb, hx, hy, hz, hw⟩ := h
  have lt : a < S.length := g_lt ha
  show wpSs c (.cons _ (.cons _ dTail)) ⟨fun _ S' => Q .non S', Q, fun _ _ => False, fun _ _ => False, fun x _ S' => E x S'⟩ [some (.ref a), some (.int many), none, none, none, none] S
  refine s_cons (s_iff (e_cmp (e_var (by rfl) (e_int (c_lt (t_bl (d_2 (fun m2 => ?_) fun m2 => ?_)))))))
  · walk_at "mp"
    exact q 0 S (by omega) (.inl rfl) h0 Fr.refl rfl
  have hm : 2 ≤ many := by omega
  refine s_nil ?_
  -- behind the second statement
  have tail : ∀ (x y z : Int) (s2 s3 : Option D) (S' : Sto), (0 ≤ x ∧ x < 2147483647) → 0 ≤ y → 0 ≤ z → S' = S.set a (.lst [.int x, .int y, .int z, .int w, .ref b]) → wpSs c dTail ⟨fun _ S' => Q .non S', Q, fun _ _ => False, fun _ _ => False, fun x _ S' => E x S'⟩ [some (.ref a), some (.int many), s2, s3, none, none] S' := by
    intro x y z s2 s3 S' hx hy hz e
    subst e
    refine draw_tail (g_set ha) (g_setn hab hb) hm hM hab hx hy hz hw fun r x' y' w' r0 r1 hx' hy' hw' => ?_
    rw [List.set_set]
    exact q r _ r0 (.inr r1) ⟨hab, x', y', z, w', ns, g_set ha, g_setn hab hb, hx', hy', hz, hw'⟩ Fr.set (by simp)
  have same : S = S.set a (.lst [.int x, .int y, .int z, .int w, .ref b]) := by
    have e : S[a] = O.lst [.int x, .int y, .int z, .int w, .ref b] := by
      have := List.getElem?_eq_getElem lt
      rw [ha] at this
      exact (Option.some.inj this).symm
    rw [← e, List.set_getElem_self]
  refine s_cons (s_iff ?_)
  walk_at "mp"
  refine d_2 (fun hy0 => ?_) fun hy0 => ?_
  · walk_at "mp"
    refine d_2 (fun hzl => ?_) fun hzl => ?_
    · obtain ⟨v, hv⟩ := atI_ints hz (by simpa using hzl)
      walk_at "mp"
      refine d_2 (fun v0 => ?_) fun v0 => ?_
      · walk_at "mp"
        refine d_2 (fun v1 => ?_) fun v1 => ?_
        · walk_at "mp"
          rw [List.set_set]
          exact tail x v (z + 1) _ _ _ hx v0 (by omega) rfl
        · have ms : IntMulOk v 48271 := IntMulOk.of_right (by decide)
          walk_at "mp"
          rw [List.set_set]
          exact tail _ y (z + 1) _ _ _ ⟨Int.emod_nonneg _ (by decide), Int.emod_lt_of_pos _ (by decide)⟩ hy (by omega) rfl
      · walk_at "mp"
        refine d_2 (fun v1 => ?_) fun v1 => ?_
        · walk_at "mp"
          rw [List.set_set]
          exact tail x (-v) (z + 1) _ _ _ hx (by omega) (by omega) rfl
        · have ms : IntMulOk (-v) 48271 := IntMulOk.of_right (by decide)
          walk_at "mp"
          rw [List.set_set]
          exact tail _ y (z + 1) _ _ _ ⟨Int.emod_nonneg _ (by decide), Int.emod_lt_of_pos _ (by decide)⟩ hy (by omega) rfl
    · walk_at "mp"
      exact tail x y z _ _ _ hx hy hz same
  · walk_at "mp"
    exact tail x y z _ _ _ hx hy hz same
end MP
/-! MPLib: what many laws call. -/
namespace MP
open PySem PySem.Spec PyProof.Rows L2
local macro_rules | `(tactic| walk_at "look") => `(tactic| first | assumption | exact g_last | (with_reducible apply g_set; walk_at "look") | ((with_reducible refine g_setn ?h1 ?h2); (case h1 => first | assumption | omega | (apply Ne.symm; assumption)); (case h2 => walk_at "look")) | ((with_reducible refine g_app ?_); walk_at "look") | ((with_reducible refine' Fr.get ?h1 ?h2 ?h3); (case h1 => assumption); (case h2 => first | assumption | omega | (apply Ne.symm; assumption)); (case h3 => walk_at "look")) | ((with_reducible refine' Ch.get ?h1 ?h2 ?h3); (case h1 => assumption); (case h2 => first | assumption | (simp; done) | (simp only [List.mem_cons, List.not_mem_nil, or_false, not_or]; omega)); (case h3 => walk_at "look")))
local macro_rules | `(tactic| walk_at "kn") => `(tactic| first | assumption | omega | (simp; done) | decide)
local macro_rules | `(tactic| walk_at "sz") => `(tactic| first | assumption | (rw [sizeLine_eq]; first | omega | (simp; done) | (simp; omega)))
local macro_rules | `(tactic| walk_at "at") => `(tactic| first | exact rfl | assumption)
local macro_rules | `(tactic| walk_at "mp1") => `(tactic| first
  | with_reducible refine s_cons ?_ | with_reducible refine s_nil ?_ | with_reducible refine s_nm ?_ | with_reducible refine s_ix ?_ | with_reducible refine s_asg ?_ | with_reducible refine s_ex ?_ | with_reducible refine s_iff ?_ | with_reducible refine s_ret ?_ | with_reducible refine s_for ?_
  | ((with_reducible refine' e_var ?h1 ?_); (case h1 => exact rfl)) | with_reducible refine e_int ?_ | with_reducible refine e_bin ?_ | with_reducible refine e_cmp ?_ | with_reducible refine e_ix ?_ | with_reducible refine e_call ?_ | with_reducible refine e_blt ?_ | with_reducible refine e_bl ?_ | with_reducible refine e_and ?_ | with_reducible refine e_or ?_ | with_reducible refine e_not ?_ | with_reducible refine e_ite ?_
  | with_reducible refine es_cons ?_ | with_reducible refine es_nil ?_ | with_reducible refine e_tup ?_ | with_reducible refine e_lst ?_ | with_reducible refine e_meth ?_ | with_reducible refine e_comp ?_ | with_reducible refine e_sl ?_ | with_reducible refine e_neg ?_ | with_reducible refine e_isi ?_ | with_reducible refine e_lrg ?_ | with_reducible refine e_trg ?_ | with_reducible refine e_non ?_ | with_reducible refine e_str ?_ | with_reducible refine e_fnv ?_ | with_reducible refine e_orl ?_ | with_reducible refine e_dnew ?_ | with_reducible refine e_dget ?_ | with_reducible refine e_dget2 ?_
  | with_reducible refine o_no ?_ | with_reducible refine o_so ?_ | with_reducible refine i_rng ?_ | with_reducible refine i_seq ?_ | with_reducible refine i_enum ?_ | with_reducible refine i_rngD ?_ | with_reducible refine if_nil ?_ | with_reducible refine if_cons ?_ | with_reducible refine rg_1 ?_ | with_reducible refine rg_2 ?_
  | with_reducible refine b_add ?_ | with_reducible refine b_sub ?_ | ((with_reducible refine' b_mul ?h1 ?_); (case h1 => first | assumption | mul_fits)) | ((with_reducible refine' b_fdiv ?h1 ?h2 ?_); (case h1 => walk_at "kn"); (case h2 => first | assumption | decide)) | ((with_reducible refine' b_mod ?h1 ?_); (case h1 => walk_at "kn")) | ((with_reducible refine' b_pow ?h1 ?_); (case h1 => first | assumption | exact ⟨by decide, by decide, by decide⟩)) | ((with_reducible refine' b_shr ?h1 ?_); (case h1 => walk_at "kn")) | ((with_reducible refine' b_shl ?h1 ?_); (case h1 => assumption)) | with_reducible refine b_and ?_ | with_reducible refine b_or ?_ | with_reducible refine b_xor ?_
  | with_reducible refine c_lt ?_ | with_reducible refine c_le ?_ | with_reducible refine c_gt ?_ | with_reducible refine c_ge ?_ | with_reducible refine c_eqi ?_ | with_reducible refine c_nei ?_ | with_reducible refine c_eqb ?_ | with_reducible refine c_neb ?_ | with_reducible refine c_eqs ?_ | with_reducible refine c_nes ?_
  | with_reducible refine t_bl ?_ | with_reducible refine t_int ?_ | with_reducible refine t_tup ?_ | with_reducible refine t_non ?_
  | ((with_reducible refine' x_ref ?h1 ?h2 ?_); (case h1 => walk_at "look"); (case h2 => walk_at "at")) | ((with_reducible refine' x_tup ?h1 ?_); (case h1 => walk_at "at")) | ((with_reducible refine' x_klst ?h1 ?_); (case h1 => walk_at "at"))
  | ((with_reducible refine' set_ref ?h1 ?h2 ?_); (case h1 => walk_at "look"); (case h2 => walk_at "at"))
  | ((with_reducible refine' f_lenr ?h1 ?_); (case h1 => walk_at "look")) | with_reducible refine f_lent ?_ | with_reducible refine f_lenk ?_ | with_reducible refine f_int ?_ | ((with_reducible refine' f_listr ?h1 ?_); (case h1 => walk_at "look")) | with_reducible refine f_listt ?_ | with_reducible refine f_listk ?_ | ((with_reducible refine' f_tupr ?h1 ?_); (case h1 => walk_at "look")) | with_reducible refine f_tupt ?_ | with_reducible refine f_max ?_ | with_reducible refine f_min ?_
  | with_reducible refine sl_klst ?_ | ((with_reducible refine' sl_ref ?h1 ?_); (case h1 => walk_at "look")) | with_reducible refine sl_tup ?_
  | ((with_reducible refine' m_app ?h1 ?h2 ?_); (case h1 => walk_at "look"); (case h2 => walk_at "sz")) | ((with_reducible refine' m_ext ?h1 ?h2 ?h3 ?_); (case h1 => walk_at "look"); (case h2 => walk_at "look"); (case h3 => walk_at "sz")) | ((with_reducible refine' m_extT ?h1 ?h3 ?_); (case h1 => walk_at "look"); (case h3 => walk_at "sz"))
  | with_reducible refine k_t ?_ | with_reducible refine k_f ?_ | with_reducible refine k_nt ?_ | with_reducible refine k_nf ?_
  | ((with_reducible refine' d_t ?h1 ?_); (case h1 => first | assumption | omega)) | ((with_reducible refine' d_f ?h1 ?_); (case h1 => first | assumption | omega)) | ((with_reducible refine' d_nt ?h1 ?_); (case h1 => first | assumption | omega)) | ((with_reducible refine' d_nf ?h1 ?_); (case h1 => first | assumption | omega))
  | ((with_reducible refine' And.intro (r_lst ?h1 ?h2) ?_); (case h1 => decide); (case h2 => walk_at "look")) | (with_reducible refine And.intro r_int ?_)
  | ((with_reducible refine And.intro ?h1 ?_); (case h1 => (with_reducible show List.length _ ≤ sizeLine); walk_at "sz"))
  | dsimp only
  | dsimp only [isTy_int, isTy_bl, isTy_str, isTy_non, isTy_tup])
local macro_rules | `(tactic| walk_at "mp") => `(tactic| repeat walk_at "mp1")
local macro_rules | `(tactic| walk_at "tx1") => `(tactic| first
  | walk_at "mp1"
  | with_reducible refine e_cst ?_ | ((with_reducible refine' f_lens ?h1 ?_); (case h1 => walk_at "sz"))
  | ((with_reducible refine' x_str ?h1 ?h2 ?_); (case h1 => walk_at "sz"); (case h2 => walk_at "at"))
  | ((with_reducible refine' sl_str' ?h1 ?_); (case h1 => walk_at "sz")))
local macro_rules | `(tactic| walk_at "tx") => `(tactic| repeat walk_at "tx1")

/-- whole numbers as values -/
def nl (ps : List Nat) : List D := ps.map fun (p : Nat) => D.int (p : Int)
theorem nl_len (ps : List Nat) : (nl ps).length = ps.length := List.length_map ..
theorem nl_get {ps : List Nat} {i : Nat} {x : D} (h : (nl ps)[i]? = some x) : ∃ p, ps[i]? = some p ∧ x = .int (p : Int) := by
  unfold nl at h
  rw [List.getElem?_map] at h
  obtain ⟨p, h1, h2⟩ := Option.map_eq_some_iff.mp h
  exact ⟨p, h1, h2.symm⟩
theorem nl_at {ps : List Nat} {i p : Nat} (h : ps[i]? = some p) : (nl ps)[i]? = some (.int (p : Int)) := by unfold nl; rw [List.getElem?_map, h]; rfl
theorem nl_lt {ps : List Nat} {i : Nat} (h : i < ps.length) : (nl ps)[i]? = some (.int (ps[i] : Int)) := nl_at (List.getElem?_eq_getElem h)
theorem nl_flat : ∀ ps : List Nat, (nl ps).all flatD = true
  | [] => rfl
  | p :: r => by
    show (flatD (.int (p : Int)) && (nl r).all flatD) = true
    rw [nl_flat r]
    rfl
theorem nl_in (x : Nat) : ∀ ps : List Nat, inF (.int (x : Int)) (nl ps) = decide (x ∈ ps)
  | [] => by simp [inF, nl]
  | p :: r => by
    have ih := nl_in x r
    unfold inF at *
    show (eqF (.int (p : Int)) (.int (x : Int)) || (nl r).any fun y => eqF y (.int (x : Int))) = _
    rw [ih]
    by_cases h : p = x
    · subst h; simp [eqF]
    · have : ((p : Int) == (x : Int)) = false := by rw [beq_eq_false_iff_ne]; omega
      simp [eqF, this, Ne.symm h]
theorem nl_pds (S : Sto) : ∀ ps : List Nat, Pds S (nl ps) (ps.map fun (p : Nat) => PyData.int (p : Int))
  | [] => .nil
  | p :: r => .cons (.int _) (nl_pds S r)
theorem can_ints : ∀ ns : List Int, PyData.canLayAll0 (ns.map PyData.int) = true
  | [] => by simp [PyData.canLayAll0]
  | x :: r => by simp [PyData.canLayAll0, PyData.canLay0, can_ints r]
theorem depth_ints : ∀ ns : List Int, PyData.depthAll (ns.map PyData.int) = 0 ∨ PyData.depthAll (ns.map PyData.int) ≤ 1
  | [] => by simp [PyData.depthAll]
  | x :: r => by
    have := depth_ints r
    right
    simp [PyData.depthAll, PyData.depth]
    omega
theorem eqv_ints : ∀ xs ys : List Nat, PyData.eqvAll (xs.map fun (p : Nat) => PyData.int (p : Int)) (ys.map fun (p : Nat) => PyData.int (p : Int)) = decide (xs = ys)
  | [], [] => by simp [PyData.eqvAll]
  | [], y :: r => by simp [PyData.eqvAll]
  | x :: r, [] => by simp [PyData.eqvAll]
  | x :: r, y :: q => by
    show (PyData.eqv (.int (x : Int)) (.int (y : Int)) && PyData.eqvAll (r.map fun (p : Nat) => PyData.int (p : Int)) (q.map fun (p : Nat) => PyData.int (p : Int))) = _
    rw [eqv_ints r q]
    show (((x : Int) == (y : Int)) && decide (r = q)) = _
    by_cases h : x = y
    · subst h; simp
    · have : ((x : Int) == (y : Int)) = false := by rw [beq_eq_false_iff_ne]; omega
      simp [this, h]
theorem shaped_ints (ps : List Nat) : SeqAt.shaped (.list (ps.map fun (p : Nat) => PyData.int (p : Int))) = true := by
  have e : (ps.map fun (p : Nat) => PyData.int (p : Int)) = (ps.map fun (p : Nat) => (p : Int)).map PyData.int := by rw [List.map_map]; rfl
  have h1 := can_ints (ps.map fun (p : Nat) => (p : Int))
  have h2 := depth_ints (ps.map fun (p : Nat) => (p : Int))
  rw [e]
  unfold SeqAt.shaped
  rw [Bool.and_eq_true]
  refine ⟨?_, decide_eq_true ?_⟩
  · simp only [PyData.canLay0]; exact h1
  · simp only [PyData.depth]; omega

/-- a comprehension whose turns leave the store alone -/
theorem comp_pure {gs : List (Nat × List D)} {body : D → Sto → (Option D → Sto → Prop) → Prop} (f : D → Option D) {S : Sto} (g : Gd gs S) : ∀ {xs : List D} {R : List D → Sto → Prop}, (∀ x ∈ xs, ∀ K : Option D → Sto → Prop, K (f x) S → body x S K) → R (xs.filterMap f) S → wpComp gs body xs S R
  | [], R, _, h => ⟨g, h⟩
  | x :: r, R, hb, h => by
    refine ⟨g, hb x List.mem_cons_self _ ?_⟩
    refine comp_pure f g (fun y hy => hb y (List.mem_cons_of_mem _ hy)) ?_
    rw [List.filterMap_cons] at h
    cases e : f x with
    | none => rw [e] at h; exact h
    | some y => rw [e] at h; exact h
theorem nl_filterMap (ps : List Nat) (g : Nat → Bool) (f : D → Option D) (hf : ∀ p ∈ ps, f (.int (p : Int)) = if g p = true then some (.int (p : Int)) else none) : (nl ps).filterMap f = nl (ps.filter g) := by
  induction ps with
  | nil => rfl
  | cons p r ih =>
    have e := hf p List.mem_cons_self
    have ih := ih fun q hq => hf q (List.mem_cons_of_mem _ hq)
    show (D.int (p : Int) :: nl r).filterMap f = _
    rw [List.filterMap_cons, e, List.filter_cons]
    by_cases h : g p = true
    · rw [if_pos h, if_pos h]
      show D.int (p : Int) :: _ = D.int (p : Int) :: nl (r.filter g)
      rw [ih]
    · rw [if_neg h, if_neg h]
      exact ih
/-- a comprehension that keeps some of a list of numbers, as they are -/
theorem comp_filt {c : CallT} {vs : List Nat} {j : Nat} {ifs : MXs} {elt : MX} {σ : Env} {gs : List (Nat × List D)} (g : Nat → Bool) {S : Sto} (hg : Gd gs S) : ∀ {ps : List Nat} {R : List D → Sto → Prop}, (∀ p ∈ ps, ∀ K : Option D → Sto → Prop, (g p = true → K (some (.int (p : Nat))) S) → (g p = false → K none S) → wpIfs c ifs (fun _ _ => False) ((wipeE σ vs).set j (some (.int (p : Nat)))) S fun k S3 => if k = true then wpE c elt (fun _ _ => False) ((wipeE σ vs).set j (some (.int (p : Nat)))) S3 fun y S4 => K (some y) S4 else K none S3) → R (nl (ps.filter g)) S → wpComp gs (cmpB c vs (.nm j) ifs elt σ) (nl ps) S R := by
  intro ps R hb h
  rw [← nl_filterMap ps g (fun x => match x with
    | .int i => if g i.toNat = true then some (.int i) else none
    | _ => none) (fun p _ => by show (if g ((p : Int)).toNat = true then some (D.int (p : Int)) else none) = _; rw [Int.toNat_natCast])] at h
  refine comp_pure _ hg (fun x hx K hK => ?_) h
  obtain ⟨i, hi⟩ := List.mem_iff_getElem?.mp hx
  obtain ⟨p, hp, rfl⟩ := nl_get hi
  have e : (if g ((p : Int)).toNat = true then some (D.int (p : Int)) else none) = if g p = true then some (D.int (p : Int)) else none := by rw [Int.toNat_natCast]
  replace hK : K (if g ((p : Int)).toNat = true then some (D.int (p : Int)) else none) S := hK
  rw [e] at hK
  refine hb p (List.mem_of_getElem? hp) K (fun y => ?_) fun y => ?_
  · rw [if_pos y] at hK; exact hK
  · rw [y, if_neg Bool.false_ne_true] at hK; exact hK
theorem rgD_nl (n : Nat) : rgD 0 (n : Int) = nl (List.range n) := by
  unfold rgD nl
  simp

/-- what the drawing def is worth -/
def DrawSpec (c : CallT) (fd : Nat) : Prop := ∀ (a b : Nat) (many : Int) (S : Sto) (Q : KD) (E : Ex → Sto → Prop), DS S a b → many.natAbs.log2 < 9000 →
  (∀ r S', 0 ≤ r → (r = 0 ∨ r < many) → DS S' a b → Fr a S S' → S'.length = S.length → Q (.int r) S') → c fd [.ref a, .int many] S Q E
theorem log2_nat {n : Nat} (h : n < 2 ^ 64) : ((n : Int)).natAbs.log2 < 9000 := log2_small (Nat.lt_of_lt_of_le (m := 2 ^ 64) (by rw [Int.natAbs_natCast]; exact h) (Nat.pow_le_pow_right (by decide) (by decide)))

def bShuf (fd : Nat) : MSs :=
  (.cons (.asg (.tg (.nm 2)) (.blt .list (.cons (.var 1) .nil))) (.cons (.asg (.tg (.nm 3)) (.lst .nil)) (.cons (.for_ (.nm 4) (.rng (.cons (.blt .len (.cons (.var 1) .nil)) .nil))
    (.cons (.ex (.meth .append (.var 3) (.cons (.meth .popAt (.var 2) (.cons (.call fd (.cons (.var 0) (.cons (.blt .len (.cons (.var 2) .nil)) .nil))) .nil)) .nil))) .nil)) (.cons (.ret (.var 3)) .nil))))
theorem perm_erase {α : Type} : ∀ {l : List α} {k : Nat} {y : α}, l[k]? = some y → (y :: l.eraseIdx k).Perm l
  | [], k, y, h => by simp at h
  | x :: r, 0, y, h => by
    have e : x = y := by simpa using h
    rw [e]
    exact List.Perm.refl _
  | x :: r, k + 1, y, h => by
    have ih := perm_erase (l := r) (k := k) (y := y) (by simpa using h)
    rw [List.eraseIdx_cons_succ]
    exact (List.Perm.swap x y _).trans (ih.cons x)
theorem perm_pop {xs left found : List D} {k : Nat} {y : D} (h : (left ++ found).Perm xs) (e : left[k]? = some y) : (left.eraseIdx k ++ (found ++ [y])).Perm xs := by
  refine List.Perm.trans ?_ h
  have p := perm_erase e
  have h1 : (left.eraseIdx k ++ (found ++ [y])).Perm (left.eraseIdx k ++ ([y] ++ found)) := List.Perm.append_left _ List.perm_append_comm
  have h2 : (left.eraseIdx k ++ [y] ++ found).Perm (left ++ found) := List.Perm.append_right _ (List.perm_append_comm.trans p)
  rw [List.append_assoc] at h2
  exact h1.trans h2
set_option maxHeartbeats 4000000 in
theorem shuf_ok {c : CallT} (hc : CallMono c c) {fd : Nat} (hd : DrawSpec c fd) {a b : Nat} {row : D} {xs : List D} {S : Sto} {Q : KD} {E : Ex → Sto → Prop} (ds : DS S a b) (hl : xs.length < 100000) (hr : row = .tup xs ∨ ∃ r, row = .ref r ∧ r ≠ a ∧ S[r]? = some (.lst xs))
    (q : ∀ (ys : List D) (p : Nat) (S' : Sto), ys.Perm xs → DS S' a b → Fr a S S' → S.length ≤ p → S'[p]? = some (.lst ys) → Q (.ref p) S') :
    wpSs c (bShuf fd) ⟨fun _ S' => Q .non S', Q, fun _ _ => False, fun _ _ => False, fun x _ S' => E x S'⟩ [some (.ref a), some row, none, none, none] S := by
  have la := ds.lta
  have lb := ds.ltb
  have hli : ∀ {Q' : KD}, Q' (.ref S.length) (S ++ [.lst xs]) → wpBlt .list [row] S Q' := fun {Q'} h => by
    rcases hr with rfl | ⟨r, rfl, _, e⟩
    · exact h
    · exact f_listr e h
  have hle : ∀ {S' : Sto} {Q' : KD}, Fr a S S' → Q' (.int xs.length) S' → wpBlt .len [row] S' Q' := fun {S' Q'} f h => by
    rcases hr with rfl | ⟨r, rfl, n, e⟩
    · exact h
    · exact f_lenr (f.get n e) h
  unfold bShuf
  walk_at "mp"
  refine hli ?_
  walk_at "mp"
  refine hle (Fr.app.trans Fr.app) ?_
  walk_at "mp"
  refine ⟨⟨by omega, by omega⟩, ?_⟩
  rw [rgD_nl]
  have eL : (S ++ [O.lst xs]).length = S.length + 1 := by simp
  refine for_nm hc (fun i σ S' => ∃ left found s4, σ = [some (.ref a), some row, some (.ref S.length), some (.ref (S ++ [O.lst xs]).length), s4] ∧ DS S' a b ∧ Fr a S S' ∧ S'[S.length]? = some (.lst left) ∧ S'[(S ++ [O.lst xs]).length]? = some (.lst found) ∧ (left ++ found).Perm xs ∧ found.length = i) ?_ ?_ ?_ ?_
  · exact ⟨xs, [], none, rfl, ds.app.app, Fr.app.trans Fr.app, g_app g_last, g_last, by simp, rfl⟩
  · intros; exact gd_nil
  · rintro i x σ S' hx ⟨left, found, s4, rfl, ds', fr, e1, e2, pm, hi⟩
    have hil := (List.getElem?_eq_some_iff.mp hx).1
    rw [nl_len, List.length_range] at hil
    have hlen : left.length + found.length = xs.length := by simpa using pm.length_eq
    have ne : S.length ≠ (S ++ [O.lst xs]).length := by omega
    walk_at "mp"
    refine hd a b _ S' _ _ ds' (log2_nat (n := left.length) (by omega)) fun r S1 r0 r1 ds1 fr1 len1 => ?_
    obtain ⟨k, rfl⟩ := Int.eq_ofNat_of_zero_le r0
    have hk : k < left.length := by omega
    have l1 : S1[S.length]? = some (.lst left) := fr1.get (by omega) e1
    have l2 : S1[(S ++ [O.lst xs]).length]? = some (.lst found) := fr1.get (by omega) e2
    walk_at "mp"
    refine m_popAt l1 (List.getElem?_eq_getElem hk) (by omega) ?_
    walk_at "mp"
    have sz : found.length < sizeLine := by rw [sizeLine_eq]; omega
    walk_at "mp"
    refine ⟨left.eraseIdx k, found ++ [left[k]], some x, rfl, (ds1.setn (by omega) (by omega)).setn (by omega) (by omega), ((fr.trans fr1).setn (by omega)).setn (by omega), g_setn (Ne.symm ne) (g_set l1), g_set (g_setn ne l2), perm_pop pm (List.getElem?_eq_getElem hk), by simp [hi]⟩
  · rintro σ S' ⟨left, found, s4, rfl, ds', fr, e1, e2, pm, hi⟩
    rw [nl_len, List.length_range] at hi
    have hlen : left.length + found.length = xs.length := by simpa using pm.length_eq
    have l0 : left = [] := List.eq_nil_of_length_eq_zero (by omega)
    subst l0
    walk_at "mp"
    exact q found _ S' (by simpa using pm) ds' fr (by omega) e2
def bBegin : MSs :=
  (.cons (.ret (.lst (.cons (.int 0) (.cons (.int 0) (.cons (.int 0) (.cons (.int 0) (.cons (.blt .list (.cons (.sl (.var 0) .no (.so (.int 63))) .nil)) .nil))))))) .nil)
theorem cutD_map (ns : List Int) (l h : Option Int) : cutD (ns.map D.int) l h = (cutD ns l h).map D.int := by
  unfold cutD
  rw [List.length_map, List.map_take, List.map_drop]
theorem begin_ok {c : CallT} {ns : List Int} {S : Sto} {Q : KD} {E : Ex → Sto → Prop} (q : ∀ S', DS S' (S.length + 2) (S.length + 1) → S'.length = S.length + 3 → Q (.ref (S.length + 2)) S') :
    wpSs c bBegin ⟨fun _ S' => Q .non S', Q, fun _ _ => False, fun _ _ => False, fun x _ S' => E x S'⟩ [some (.klst (ns.map .int))] S := by
  unfold bBegin
  walk_at "mp"
  rw [cutD_map]
  have l1 : (S ++ [O.lst ((cutD ns none (some 63)).map D.int)]).length = S.length + 1 := by simp
  have l2 : (S ++ [O.lst ((cutD ns none (some 63)).map D.int)] ++ [O.lst ((cutD ns none (some 63)).map D.int)]).length = S.length + 2 := by simp
  rw [l2, l1]
  refine q _ ⟨by omega, 0, 0, 0, 0, cutD ns none (some 63), ?_, ?_, by decide, by decide, by decide, by decide⟩ (by simp)
  · rw [← l2]; exact g_last
  · refine g_app ?_
    rw [← l1]; exact g_last
def bPick (fd : Nat) : MSs :=
  (.cons (.ret (.ix (.var 1) (.call fd (.cons (.var 0) (.cons (.blt .len (.cons (.var 1) .nil)) .nil))))) .nil)
theorem pick_ok {c : CallT} {fd : Nat} (hd : DrawSpec c fd) {a b : Nat} {row : D} {xs : List D} {S : Sto} {Q : KD} {E : Ex → Sto → Prop} (ds : DS S a b) (h0 : 0 < xs.length) (hl : xs.length < 2 ^ 64) (hr : row = .tup xs ∨ ∃ r, row = .ref r ∧ r ≠ a ∧ S[r]? = some (.lst xs))
    (q : ∀ (x : D) (S' : Sto), x ∈ xs → DS S' a b → Fr a S S' → S'.length = S.length → Q x S') :
    wpSs c (bPick fd) ⟨fun _ S' => Q .non S', Q, fun _ _ => False, fun _ _ => False, fun x _ S' => E x S'⟩ [some (.ref a), some row] S := by
  have fin : ∀ (r : Int) (S' : Sto), 0 ≤ r → (r = 0 ∨ r < (xs.length : Nat)) → DS S' a b → Fr a S S' → S'.length = S.length → wpIx row (.int r) S' Q := fun r S' r0 r1 ds1 fr1 len1 => by
    obtain ⟨k, rfl⟩ := Int.eq_ofNat_of_zero_le r0
    have hk : k < xs.length := by omega
    have e := atI_nat (List.getElem?_eq_getElem hk)
    rcases hr with rfl | ⟨t, rfl, n, g⟩
    · exact x_tup e (q _ _ (List.getElem_mem hk) ds1 fr1 len1)
    · exact x_ref (fr1.get n g) e (q _ _ (List.getElem_mem hk) ds1 fr1 len1)
  have hle : ∀ {Q' : KD}, Q' (.int xs.length) S → wpBlt .len [row] S Q' := fun {Q'} h => by
    rcases hr with rfl | ⟨t, rfl, n, g⟩
    · exact h
    · exact f_lenr g h
  unfold bPick
  walk_at "mp"
  refine hle ?_
  walk_at "mp"
  exact hd a b _ S _ _ ds (log2_nat hl) fin
/-- strings as values -/
def sl (xs : List Str) : List D := xs.map D.str
theorem sl_flat : ∀ xs : List Str, (sl xs).all flatD = true
  | [] => rfl
  | x :: r => by
    show (flatD (.str x) && (sl r).all flatD) = true
    rw [sl_flat r]
    rfl
theorem sl_in (x : Str) : ∀ xs : List Str, inF (.str x) (sl xs) = decide (x ∈ xs)
  | [] => by simp [inF, sl]
  | p :: r => by
    have ih := sl_in x r
    unfold inF at *
    show (eqF (.str p) (.str x) || (sl r).any fun y => eqF y (.str x)) = _
    rw [ih]
    by_cases h : p = x
    · subst h; simp [eqF]
    · have : (p == x) = false := by rw [beq_eq_false_iff_ne]; exact h
      simp [eqF, this, Ne.symm h]
theorem sl_get {xs : List Str} {i : Nat} {x : D} (h : (sl xs)[i]? = some x) : ∃ p, xs[i]? = some p ∧ x = .str p := by
  unfold sl at h
  rw [List.getElem?_map] at h
  obtain ⟨p, h1, h2⟩ := Option.map_eq_some_iff.mp h
  exact ⟨p, h1, h2.symm⟩
theorem sl_len (xs : List Str) : (sl xs).length = xs.length := List.length_map ..
theorem sl_pds (S : Sto) : ∀ xs : List Str, Pds S (sl xs) (xs.map PyData.str)
  | [] => .nil
  | x :: r => .cons (.str _) (sl_pds S r)
theorem eqv_strs : ∀ xs : List Str, PyData.eqvAll (xs.map PyData.str) (xs.map PyData.str) = true
  | [] => by simp [PyData.eqvAll]
  | x :: r => by
    show (PyData.eqv (.str x) (.str x) && PyData.eqvAll (r.map PyData.str) (r.map PyData.str)) = true
    rw [eqv_strs r]
    show ((x == x) && true) = true
    simp
theorem can_strs : ∀ ns : List Str, (∀ x ∈ ns, PyData.strOk x = true) → PyData.canLayAll0 (ns.map PyData.str) = true
  | [], _ => by simp [PyData.canLayAll0]
  | x :: r, h => by
    have ih := can_strs r fun y hy => h y (List.mem_cons_of_mem _ hy)
    simp [PyData.canLayAll0, PyData.canLay0, ih, h x List.mem_cons_self]
theorem depth_strs : ∀ ns : List Str, PyData.depthAll (ns.map PyData.str) = 0 ∨ PyData.depthAll (ns.map PyData.str) ≤ 1
  | [] => by simp [PyData.depthAll]
  | x :: r => by
    have := depth_strs r
    right
    simp [PyData.depthAll, PyData.depth]
    omega
theorem shaped_strs {ns : List Str} (h : ∀ x ∈ ns, PyData.strOk x = true) : SeqAt.shaped (.tuple (ns.map PyData.str)) = true := by
  have h1 := can_strs ns h
  have h2 := depth_strs ns
  unfold SeqAt.shaped
  rw [Bool.and_eq_true]
  refine ⟨?_, decide_eq_true ?_⟩
  · simp only [PyData.canLay0]; exact h1
  · simp only [PyData.depth]; omega
end MP
/-! MPData: data without lists; cuts; comprehensions that change nothing. -/
namespace MP
open PySem PySem.Spec PyProof.Rows L2
local macro_rules | `(tactic| walk_at "look") => `(tactic| first | assumption | exact g_last | (with_reducible apply g_set; walk_at "look") | ((with_reducible refine g_setn ?h1 ?h2); (case h1 => first | assumption | omega | (apply Ne.symm; assumption)); (case h2 => walk_at "look")) | ((with_reducible refine g_app ?_); walk_at "look") | ((with_reducible refine' Fr.get ?h1 ?h2 ?h3); (case h1 => assumption); (case h2 => first | assumption | omega | (apply Ne.symm; assumption)); (case h3 => walk_at "look")) | ((with_reducible refine' Ch.get ?h1 ?h2 ?h3); (case h1 => assumption); (case h2 => first | assumption | (simp; done) | (simp only [List.mem_cons, List.not_mem_nil, or_false, not_or]; omega)); (case h3 => walk_at "look")))
local macro_rules | `(tactic| walk_at "kn") => `(tactic| first | assumption | omega | (simp; done) | decide)
local macro_rules | `(tactic| walk_at "sz") => `(tactic| first | assumption | (rw [sizeLine_eq]; first | omega | (simp; done) | (simp; omega)))
local macro_rules | `(tactic| walk_at "at") => `(tactic| first | exact rfl | assumption)
local macro_rules | `(tactic| walk_at "mp1") => `(tactic| first
  | with_reducible refine s_cons ?_ | with_reducible refine s_nil ?_ | with_reducible refine s_nm ?_ | with_reducible refine s_ix ?_ | with_reducible refine s_asg ?_ | with_reducible refine s_ex ?_ | with_reducible refine s_iff ?_ | with_reducible refine s_ret ?_ | with_reducible refine s_for ?_
  | ((with_reducible refine' e_var ?h1 ?_); (case h1 => exact rfl)) | with_reducible refine e_int ?_ | with_reducible refine e_bin ?_ | with_reducible refine e_cmp ?_ | with_reducible refine e_ix ?_ | with_reducible refine e_call ?_ | with_reducible refine e_blt ?_ | with_reducible refine e_bl ?_ | with_reducible refine e_and ?_ | with_reducible refine e_or ?_ | with_reducible refine e_not ?_ | with_reducible refine e_ite ?_
  | with_reducible refine es_cons ?_ | with_reducible refine es_nil ?_ | with_reducible refine e_tup ?_ | with_reducible refine e_lst ?_ | with_reducible refine e_meth ?_ | with_reducible refine e_comp ?_ | with_reducible refine e_sl ?_ | with_reducible refine e_neg ?_ | with_reducible refine e_isi ?_ | with_reducible refine e_lrg ?_ | with_reducible refine e_trg ?_ | with_reducible refine e_non ?_ | with_reducible refine e_str ?_ | with_reducible refine e_fnv ?_ | with_reducible refine e_orl ?_ | with_reducible refine e_dnew ?_ | with_reducible refine e_dget ?_ | with_reducible refine e_dget2 ?_
  | with_reducible refine o_no ?_ | with_reducible refine o_so ?_ | with_reducible refine i_rng ?_ | with_reducible refine i_seq ?_ | with_reducible refine i_enum ?_ | with_reducible refine i_rngD ?_ | with_reducible refine if_nil ?_ | with_reducible refine if_cons ?_ | with_reducible refine rg_1 ?_ | with_reducible refine rg_2 ?_
  | with_reducible refine b_add ?_ | with_reducible refine b_sub ?_ | ((with_reducible refine' b_mul ?h1 ?_); (case h1 => first | assumption | mul_fits)) | ((with_reducible refine' b_fdiv ?h1 ?h2 ?_); (case h1 => walk_at "kn"); (case h2 => first | assumption | decide)) | ((with_reducible refine' b_mod ?h1 ?_); (case h1 => walk_at "kn")) | ((with_reducible refine' b_pow ?h1 ?_); (case h1 => first | assumption | exact ⟨by decide, by decide, by decide⟩)) | ((with_reducible refine' b_shr ?h1 ?_); (case h1 => walk_at "kn")) | ((with_reducible refine' b_shl ?h1 ?_); (case h1 => assumption)) | with_reducible refine b_and ?_ | with_reducible refine b_or ?_ | with_reducible refine b_xor ?_
  | with_reducible refine c_lt ?_ | with_reducible refine c_le ?_ | with_reducible refine c_gt ?_ | with_reducible refine c_ge ?_ | with_reducible refine c_eqi ?_ | with_reducible refine c_nei ?_ | with_reducible refine c_eqb ?_ | with_reducible refine c_neb ?_ | with_reducible refine c_eqs ?_ | with_reducible refine c_nes ?_
  | with_reducible refine t_bl ?_ | with_reducible refine t_int ?_ | with_reducible refine t_tup ?_ | with_reducible refine t_non ?_
  | ((with_reducible refine' x_ref ?h1 ?h2 ?_); (case h1 => walk_at "look"); (case h2 => walk_at "at")) | ((with_reducible refine' x_tup ?h1 ?_); (case h1 => walk_at "at")) | ((with_reducible refine' x_klst ?h1 ?_); (case h1 => walk_at "at"))
  | ((with_reducible refine' set_ref ?h1 ?h2 ?_); (case h1 => walk_at "look"); (case h2 => walk_at "at"))
  | ((with_reducible refine' f_lenr ?h1 ?_); (case h1 => walk_at "look")) | with_reducible refine f_lent ?_ | with_reducible refine f_lenk ?_ | with_reducible refine f_int ?_ | ((with_reducible refine' f_listr ?h1 ?_); (case h1 => walk_at "look")) | with_reducible refine f_listt ?_ | with_reducible refine f_listk ?_ | ((with_reducible refine' f_tupr ?h1 ?_); (case h1 => walk_at "look")) | with_reducible refine f_tupt ?_ | with_reducible refine f_max ?_ | with_reducible refine f_min ?_
  | with_reducible refine sl_klst ?_ | ((with_reducible refine' sl_ref ?h1 ?_); (case h1 => walk_at "look")) | with_reducible refine sl_tup ?_
  | ((with_reducible refine' m_app ?h1 ?h2 ?_); (case h1 => walk_at "look"); (case h2 => walk_at "sz")) | ((with_reducible refine' m_ext ?h1 ?h2 ?h3 ?_); (case h1 => walk_at "look"); (case h2 => walk_at "look"); (case h3 => walk_at "sz")) | ((with_reducible refine' m_extT ?h1 ?h3 ?_); (case h1 => walk_at "look"); (case h3 => walk_at "sz"))
  | with_reducible refine k_t ?_ | with_reducible refine k_f ?_ | with_reducible refine k_nt ?_ | with_reducible refine k_nf ?_
  | ((with_reducible refine' d_t ?h1 ?_); (case h1 => first | assumption | omega)) | ((with_reducible refine' d_f ?h1 ?_); (case h1 => first | assumption | omega)) | ((with_reducible refine' d_nt ?h1 ?_); (case h1 => first | assumption | omega)) | ((with_reducible refine' d_nf ?h1 ?_); (case h1 => first | assumption | omega))
  | ((with_reducible refine' And.intro (r_lst ?h1 ?h2) ?_); (case h1 => decide); (case h2 => walk_at "look")) | (with_reducible refine And.intro r_int ?_)
  | ((with_reducible refine And.intro ?h1 ?_); (case h1 => (with_reducible show List.length _ ≤ sizeLine); walk_at "sz"))
  | dsimp only
  | dsimp only [isTy_int, isTy_bl, isTy_str, isTy_non, isTy_tup])
local macro_rules | `(tactic| walk_at "mp") => `(tactic| repeat walk_at "mp1")
local macro_rules | `(tactic| walk_at "tx1") => `(tactic| first
  | walk_at "mp1"
  | with_reducible refine e_cst ?_ | ((with_reducible refine' f_lens ?h1 ?_); (case h1 => walk_at "sz"))
  | ((with_reducible refine' x_str ?h1 ?h2 ?_); (case h1 => walk_at "sz"); (case h2 => walk_at "at"))
  | ((with_reducible refine' sl_str' ?h1 ?_); (case h1 => walk_at "sz")))
local macro_rules | `(tactic| walk_at "tx") => `(tactic| repeat walk_at "tx1")

theorem up {k n : Nat} (h : n ≤ k) : ∃ j, k = j + n := ⟨k - n, by omega⟩
/-! ### data without lists -/
def puD : Nat → D → Bool
  | _, .non => true
  | _, .bl _ => true
  | _, .int _ => true
  | _, .str x => PyData.strOk x
  | n + 1, .tup xs => xs.all (puD n)
  | _, _ => false
theorem puD_mono : ∀ {n m : Nat} {v : D}, n ≤ m → puD n v = true → puD m v = true
  | n, m, .non, _, _ => by cases m <;> rfl
  | n, m, .bl _, _, _ => by cases m <;> rfl
  | n, m, .int _, _, _ => by cases m <;> rfl
  | n, m, .str x, _, h => by
    have h' : PyData.strOk x = true := by cases n <;> exact h
    cases m <;> exact h'
  | 0, _, .tup xs, _, h => by cases h
  | n + 1, 0, .tup xs, l, h => by omega
  | n + 1, m + 1, .tup xs, l, h => by
    have h1 : xs.all (puD n) = true := h
    show xs.all (puD m) = true
    rw [List.all_eq_true] at *
    exact fun x hx => puD_mono (by omega) (h1 x hx)
  | n, _, .ref _, _, h => by cases n <;> cases h
  | n, _, .klst _, _, h => by cases n <;> cases h
  | n, _, .fn _, _, h => by cases n <;> cases h
  | n, _, .exc _ _ _ _, _, h => by cases n <;> cases h
theorem puD_tup {n : Nat} {xs : List D} : puD (n + 1) (.tup xs) = true ↔ ∀ x ∈ xs, puD n x = true := by
  show xs.all (puD n) = true ↔ _
  rw [List.all_eq_true]
theorem puD_str {n : Nat} {x : Str} (h : PyData.strOk x = true) : puD n (.str x) = true := by cases n <;> exact h
theorem puD_int {n : Nat} {x : Int} : puD n (.int x) = true := by cases n <;> rfl
theorem puD_non {n : Nat} : puD n .non = true := by cases n <;> rfl
/-- a row of texts -/
def Strs (l : List D) : Prop := ∀ x ∈ l, ∃ s, x = .str s ∧ PyData.strOk s = true
theorem Strs.flat {l : List D} (h : Strs l) : l.all flatD = true := by
  rw [List.all_eq_true]
  intro x hx
  obtain ⟨s, rfl, _⟩ := h x hx
  rfl

theorem cut_to {α : Type} (xs : List α) (i : Nat) : cutD xs none (some (i : Int)) = xs.take i := by
  unfold cutD
  have h1 : HT.sIx xs.length 0 none = 0 := rfl
  have h2 : HT.sIx xs.length xs.length (some (i : Int)) = min i xs.length := by
    show (if (i : Int) < 0 then ((i : Int) + (xs.length : Int)).toNat else min (i : Int).toNat xs.length) = _
    rw [if_neg (by omega)]
    simp
  rw [h1, h2, List.drop_zero, Nat.sub_zero]
  rcases Nat.le_total i xs.length with h | h
  · rw [Nat.min_eq_left h]
  · rw [Nat.min_eq_right h, List.take_of_length_le (Nat.le_refl _), List.take_of_length_le h]
theorem cut_from {α : Type} (xs : List α) (i : Nat) : cutD xs (some (i : Int)) none = xs.drop i := by
  unfold cutD
  have h1 : HT.sIx xs.length xs.length none = xs.length := rfl
  have h2 : HT.sIx xs.length 0 (some (i : Int)) = min i xs.length := by
    show (if (i : Int) < 0 then ((i : Int) + (xs.length : Int)).toNat else min (i : Int).toNat xs.length) = _
    rw [if_neg (by omega)]
    simp
  rw [h1, h2]
  rcases Nat.le_total i xs.length with h | h
  · rw [Nat.min_eq_left h, List.take_of_length_le (by rw [List.length_drop]; exact Nat.le_refl _)]
  · rw [Nat.min_eq_right h, List.drop_of_length_le (Nat.le_refl _), List.drop_of_length_le h]
    simp
theorem cut_from1 {α : Type} (xs : List α) (i : Nat) : cutD xs (some ((i : Int) + 1)) none = xs.drop (i + 1) := cut_from xs (i + 1)

/-! ### data -/
structure Da (n : Nat) (v : D) (d : PyData) : Prop where
  pd : ∀ S, Pd S v d
  can : PyData.canLay0 d = true
  dep : PyData.depth d ≤ n
  eq : PyData.eqv d d = true
structure Das (n : Nat) (vs : List D) (ds : List PyData) : Prop where
  pd : ∀ S, Pds S vs ds
  can : PyData.canLayAll0 ds = true
  dep : PyData.depthAll ds ≤ n
  eq : PyData.eqvAll ds ds = true
theorem das_of {n : Nat} : ∀ {vs : List D}, (∀ v ∈ vs, ∃ d, Da n v d) → ∃ ds, Das n vs ds
  | [], _ => ⟨[], fun _ => .nil, by simp [PyData.canLayAll0], by simp [PyData.depthAll], by simp [PyData.eqvAll]⟩
  | v :: r, h => by
    obtain ⟨d, h1⟩ := h v List.mem_cons_self
    obtain ⟨ds, h2⟩ := das_of (vs := r) fun x hx => h x (List.mem_cons_of_mem _ hx)
    refine ⟨d :: ds, fun S => .cons (h1.pd S) (h2.pd S), ?_, ?_, ?_⟩
    · simp [PyData.canLayAll0, h1.can, h2.can]
    · have a := h1.dep
      have b := h2.dep
      simp only [PyData.depthAll]
      omega
    · simp [PyData.eqvAll, h1.eq, h2.eq]
theorem da_of : ∀ {n : Nat} {v : D}, puD n v = true → ∃ d, Da n v d
  | n, .non, _ => ⟨.none, fun _ => .non, by simp [PyData.canLay0], by simp [PyData.depth], by simp [PyData.eqv]⟩
  | n, .bl b, _ => ⟨.bool b, fun _ => .bl b, by simp [PyData.canLay0], by simp [PyData.depth], by simp [PyData.eqv]⟩
  | n, .int i, _ => ⟨.int i, fun _ => .int i, by simp [PyData.canLay0], by simp [PyData.depth], by simp [PyData.eqv]⟩
  | n, .str x, h => by
    have h' : PyData.strOk x = true := by cases n <;> exact h
    exact ⟨.str x, fun _ => .str x, by simpa [PyData.canLay0] using h', by simp [PyData.depth], by simp [PyData.eqv]⟩
  | 0, .tup xs, h => by cases h
  | n + 1, .tup xs, h => by
    obtain ⟨ds, h2⟩ := das_of (n := n) fun v hv => da_of (puD_tup.mp h v hv)
    refine ⟨.tuple ds, fun S => .tup (h2.pd S), ?_, ?_, ?_⟩
    · simpa [PyData.canLay0] using h2.can
    · have := h2.dep
      simp only [PyData.depth]
      omega
    · simpa [PyData.eqv] using h2.eq
  | n, .ref _, h => by cases n <;> cases h
  | n, .klst _, h => by cases n <;> cases h
  | n, .fn _, h => by cases n <;> cases h
  | n, .exc _ _ _ _, h => by cases n <;> cases h
/-- two lists of the same things are alike -/
theorem same_eq {S : Sto} {a b : Nat} {l : List D} (h : ∀ v ∈ l, puD 40 v = true) (ha : S[a]? = some (.lst l)) (hb : S[b]? = some (.lst l)) : ∃ d, Pd S (.ref a) d ∧ Pd S (.ref b) d ∧ SeqAt.shaped d = true ∧ PyData.eqv d d = true := by
  obtain ⟨ds, h2⟩ := das_of (n := 40) fun v hv => da_of (h v hv)
  refine ⟨.list ds, .ref (l_of ha) (h2.pd S), .ref (l_of hb) (h2.pd S), ?_, ?_⟩
  · unfold SeqAt.shaped
    rw [Bool.and_eq_true]
    refine ⟨by simpa [PyData.canLay0] using h2.can, decide_eq_true ?_⟩
    have := h2.dep
    simp only [PyData.depth]
    omega
  · simpa [PyData.eqv] using h2.eq

theorem comp_map {α : Type} {gs : List (Nat × List D)} {S : Sto} {body : D → Sto → (Option D → Sto → Prop) → Prop} (e g : α → D) (gd : Gd gs S) : ∀ {xs : List α} {R : List D → Sto → Prop}, (∀ x ∈ xs, ∀ K : Option D → Sto → Prop, K (some (g x)) S → body (e x) S K) → R (xs.map g) S → wpComp gs body (xs.map e) S R
  | [], R, h, q => ⟨gd, q⟩
  | x :: r, R, h, q => ⟨gd, h x List.mem_cons_self _ (comp_map e g gd (fun y hy => h y (List.mem_cons_of_mem _ hy)) q)⟩
theorem rgD_map (n : Nat) : rgD 0 (n : Int) = (List.range n).map fun i => D.int (i : Nat) := rgD_nl n
theorem pu_str {n : Nat} {x : D} (h : ∃ s, x = .str s ∧ PyData.strOk s = true) : puD n x = true := by
  obtain ⟨s, rfl, h⟩ := h
  exact puD_str h
theorem pu3 {n : Nat} {x y z : D} (h1 : puD n x = true) (h2 : puD n y = true) (h3 : puD n z = true) : puD (n + 1) (.tup [x, y, z]) = true := by
  rw [puD_tup]
  intro v hv
  simp only [List.mem_cons, List.not_mem_nil, or_false] at hv
  rcases hv with rfl | rfl | rfl <;> assumption
theorem pu2 {n : Nat} {x y : D} (h1 : puD n x = true) (h2 : puD n y = true) : puD (n + 1) (.tup [x, y]) = true := by
  rw [puD_tup]
  intro v hv
  simp only [List.mem_cons, List.not_mem_nil, or_false] at hv
  rcases hv with rfl | rfl <;> assumption
/-- a new list, all else as before -/
def RetL (S : Sto) (l : List D) (Q : KD) : Prop := ∀ a S', Ch [] S S' → S.length ≤ a → S'[a]? = some (.lst l) → Q (.ref a) S'
/-- a value, all else as before -/
def RetV (S : Sto) (v : D) (Q : KD) : Prop := ∀ S', Ch [] S S' → Q v S'
def sk : Nat → MSs → MSs
  | 0, s => s
  | n + 1, .cons _ r => sk n r
  | _ + 1, .nil => .nil
def eG (Q : KD) (E : Ex → Sto → Prop) : Ends := ⟨fun _ S' => Q .non S', Q, fun _ _ => False, fun _ _ => False, fun x _ S' => E x S'⟩
end MP
namespace K24
open PySem PySem.Spec PyProof.Rows L2 MP
def topS (i : Nat) : Stmt := PySem.Challenge.pw_weavewrit_k24_walk_order_and_bound.main.body.getD i (.Pass ⟨0, 0, 0, 0⟩)
abbrev ffirst_state : Nat := 0
abbrev fcan_take : Nat := 1
abbrev ftaken : Nat := 2
abbrev fwalk : Nat := 3
abbrev fdead_ends : Nat := 4
abbrev f_law_begin : Nat := 5
abbrev f_law_draw : Nat := 6
abbrev f_law_pick : Nat := 7
abbrev f_law_rare : Nat := 8
abbrev f_law_shuffled : Nat := 9
abbrev f_law_pool : Nat := 10
abbrev f_law_full : Nat := 11
abbrev f_law_first : Nat := 12
abbrev f_law_taken : Nat := 13
abbrev f_law_walk : Nat := 14
abbrev f_law_mask : Nat := 15
abbrev f_law_row : Nat := 16
abbrev f_law_net_parts : Nat := 17
abbrev f_law_ring_parts : Nat := 18
abbrev f_law_is_pair : Nat := 19
abbrev f_law_same_states : Nat := 20
abbrev f_law_answered : Nat := 21
abbrev f_law_long_line : Nat := 22
abbrev f_law_right : Nat := 23
abbrev flaw : Nat := 24
def cs : List (Str × D) := []
abbrev sNet : Stmt := inClass (topS 14) 0
def cls : List (Str × Nat × List Str) := [(Str.ofString "Net", 0, ["variables", "counters", "rows", "start", "counts", "added"])]
def clN : List Str := ["Net"]
def dns : List Str := []
def xcs : List (Str × Nat × Str) := [(Str.ofString "TooMany", 1, "part"), (Str.ofString "NotFor", 2, "word")]
def xss : List (Str × List Nat) := [(Str.ofString "WeaveError", [1, 2]), (Str.ofString "NotFor", [2]), (Str.ofString "BadText", []), (Str.ofString "CheckError", []), (Str.ofString "TooMany", [1])]
def nns : List Str := ["seen", "steps", "met"]
def dfs : List (Str × List D) := [(Str.ofString "walk", [.int 3000]), (Str.ofString "dead_ends", [.int 3000])]
abbrev sTooMany : Stmt := inClass (topS 4) 0
abbrev sNotFor : Stmt := inClass (topS 5) 0
def tabOf0 : GT := ⟨[(Str.ofString "first_state", 0, 2), (Str.ofString "can_take", 1, 2), (Str.ofString "taken", 2, 2), (Str.ofString "walk", 3, 3), (Str.ofString "dead_ends", 4, 3), (Str.ofString "_law_begin", 5, 1), (Str.ofString "_law_draw", 6, 2), (Str.ofString "_law_pick", 7, 2), (Str.ofString "_law_rare", 8, 2), (Str.ofString "_law_shuffled", 9, 2), (Str.ofString "_law_pool", 10, 0), (Str.ofString "_law_full", 11, 1), (Str.ofString "_law_first", 12, 2), (Str.ofString "_law_taken", 13, 2), (Str.ofString "_law_walk", 14, 3), (Str.ofString "_law_mask", 15, 2), (Str.ofString "_law_row", 16, 4), (Str.ofString "_law_net_parts", 17, 4), (Str.ofString "_law_ring_parts", 18, 1), (Str.ofString "_law_is_pair", 19, 1), (Str.ofString "_law_same_states", 20, 2), (Str.ofString "_law_answered", 21, 4), (Str.ofString "_law_long_line", 22, 1), (Str.ofString "_law_right", 23, 6), (Str.ofString "law", 24, 1)], cs, cls, dns, xcs, xss, nns, dfs⟩
def bfirst_state : MSs :=
  (.cons (.iff (.cmp .ne (.blt .len (.cons (.var 1) .nil)) (.blt .len (.cons (.fld (.var 0) "added") .nil)))
    (.cons (.rais 2 (.str "numbers")) .nil)
    .nil) (.cons (.asg (.tg (.nm 2)) (.blt .list (.cons (.fld (.var 0) "counts") .nil))) (.cons (.for_ (.tp [(.nm 3), (.nm 4)]) (.zip (.fld (.var 0) "added") (.var 1))
    (.cons (.asg (.ix (.var 2) (.var 3)) (.bin .add (.ix (.var 2) (.var 3)) (.var 4))) .nil)) (.cons (.ret (.tup (.cons (.blt .tuple (.cons (.fld (.var 0) "start") .nil)) (.cons (.blt .tuple (.cons (.var 2) .nil)) .nil)))) .nil))))
def efirst_state : DefE := ⟨"first_state", topS 7, ["net", "numbers", "counts", "counter", "many"], ["net", "numbers"], ⟨5, 2, bfirst_state⟩⟩
def bcan_take : MSs :=
  (.cons (.for_ (.tp [(.nm 2), (.nm 3)]) (.seq (.ix (.var 0) (.int 1)))
    (.cons (.iff (.cmp .eq (.bin .band (.bin .shr (.var 3) (.ix (.ix (.var 1) (.int 0)) (.var 2))) (.int 1)) (.int 0))
    (.cons (.ret (.bl false)) .nil)
    .nil) .nil)) (.cons (.for_ (.tp [(.nm 4), (.nm 5)]) (.seq (.ix (.var 0) (.int 3)))
    (.cons (.iff (.cmp .lt (.ix (.ix (.var 1) (.int 1)) (.var 4)) (.var 5))
    (.cons (.ret (.bl false)) .nil)
    .nil) .nil)) (.cons (.ret (.bl true)) .nil)))
def ecan_take : DefE := ⟨"can_take", topS 8, ["row", "state", "variable", "mask", "counter", "many"], ["row", "state"], ⟨6, 2, bcan_take⟩⟩
def btaken : MSs :=
  (.cons (.iff (.not (.call fcan_take (.cons (.var 0) (.cons (.var 1) .nil))))
    (.cons (.ret .non) .nil)
    .nil) (.cons (.asg (.tg (.nm 2)) (.blt .list (.cons (.ix (.var 1) (.int 0)) .nil))) (.cons (.for_ (.tp [(.nm 3), (.nm 4)]) (.seq (.ix (.var 0) (.int 2)))
    (.cons (.asg (.ix (.var 2) (.var 3)) (.var 4)) .nil)) (.cons (.asg (.tg (.nm 5)) (.blt .list (.cons (.ix (.var 1) (.int 1)) .nil))) (.cons (.for_ (.tp [(.nm 6), (.nm 7)]) (.seq (.ix (.var 0) (.int 3)))
    (.cons (.asg (.ix (.var 5) (.var 6)) (.bin .sub (.ix (.var 5) (.var 6)) (.var 7))) .nil)) (.cons (.for_ (.tp [(.nm 6), (.nm 7)]) (.seq (.ix (.var 0) (.int 4)))
    (.cons (.asg (.ix (.var 5) (.var 6)) (.bin .add (.ix (.var 5) (.var 6)) (.var 7))) .nil)) (.cons (.ret (.tup (.cons (.blt .tuple (.cons (.var 2) .nil)) (.cons (.blt .tuple (.cons (.var 5) .nil)) .nil)))) .nil)))))))
def etaken : DefE := ⟨"taken", topS 9, ["row", "state", "places", "variable", "place", "counts", "counter", "many"], ["row", "state"], ⟨8, 2, btaken⟩⟩
def bwalk : MSs :=
  (.cons (.asg (.tg (.nm 3)) (.call ffirst_state (.cons (.var 0) (.cons (.var 1) .nil)))) (.cons (.asg (.tg (.nm 4)) (.orX (.ddis1 (.var 3) (.bl true)) (.ddisN (.var 3) (.bl true)))) (.cons (.asg (.tg (.nm 5)) (.lst (.cons (.var 3) .nil))) (.cons (.asg (.tg (.nm 6)) (.int 0)) (.cons (.whl (.cmp .lt (.var 6) (.blt .len (.cons (.var 5) .nil)))
    (.cons (.for_ (.nm 7) (.seq (.fld (.var 0) "rows"))
    (.cons (.asg (.tg (.nm 8)) (.call ftaken (.cons (.var 7) (.cons (.ix (.var 5) (.var 6)) .nil)))) (.cons (.iff (.and (.cmp .notN (.var 8) .non) (.cmp .notin (.var 8) (.var 4)))
    (.cons (.iff (.cmp .ge (.blt .len (.cons (.var 5) .nil)) (.var 2))
    (.cons (.rais 1 (.str "states")) .nil)
    .nil) (.cons (.asg (.ix (.var 4) (.var 8)) (.bl true)) (.cons (.ex (.meth .append (.var 5) (.cons (.var 8) .nil))) .nil)))
    .nil) .nil))) (.cons (.asg (.tg (.nm 6)) (.bin .add (.var 6) (.int 1))) .nil))) (.cons (.ret (.blt .tuple (.cons (.var 5) .nil))) .nil))))))
def ewalk : DefE := ⟨"walk", topS 11, ["net", "numbers", "most", "first", "seen", "states", "at", "row", "state"], ["net", "numbers", "most"], ⟨9, 3, bwalk⟩⟩
def bdead_ends : MSs :=
  (.cons (.ret (.blt .tuple (.cons (.comp [3] (.nm 3) (.seq (.call fwalk (.cons (.var 0) (.cons (.var 1) (.cons (.var 2) .nil))))) (.cons (.not (.blt .any (.cons (.comp [4] (.nm 4) (.seq (.fld (.var 0) "rows")) .nil (.call fcan_take (.cons (.var 4) (.cons (.var 3) .nil)))) .nil))) .nil) (.var 3)) .nil))) .nil)
def edead_ends : DefE := ⟨"dead_ends", topS 12, ["net", "numbers", "most", "state", "row"], ["net", "numbers", "most"], ⟨5, 3, bdead_ends⟩⟩
def b_law_begin : MSs :=
  (.cons (.ret (.lst (.cons (.int 0) (.cons (.int 0) (.cons (.int 0) (.cons (.int 0) (.cons (.blt .list (.cons (.sl (.var 0) .no (.so (.int 63))) .nil)) .nil))))))) .nil)
def e_law_begin : DefE := ⟨"_law_begin", topS 16, ["script"], ["script"], ⟨1, 1, b_law_begin⟩⟩
def b_law_draw : MSs :=
  (.cons (.iff (.cmp .lt (.var 1) (.int 2))
    (.cons (.ret (.int 0)) .nil)
    .nil) (.cons (.iff (.and (.cmp .eq (.ix (.var 0) (.int 1)) (.int 0)) (.cmp .lt (.ix (.var 0) (.int 2)) (.blt .len (.cons (.ix (.var 0) (.int 4)) .nil))))
    (.cons (.asg (.tg (.nm 2)) (.ix (.ix (.var 0) (.int 4)) (.ix (.var 0) (.int 2)))) (.cons (.asg (.ix (.var 0) (.int 2)) (.bin .add (.ix (.var 0) (.int 2)) (.int 1))) (.cons (.asg (.tg (.nm 3)) (.ite (.cmp .ge (.var 2) (.int 0)) (.var 2) (.neg (.var 2)))) (.cons (.iff (.cmp .ge (.var 3) (.bin .pow (.int 10) (.int 18)))
    (.cons (.asg (.ix (.var 0) (.int 1)) (.var 3)) .nil)
    (.cons (.asg (.ix (.var 0) (.int 0)) (.bin .mod (.blt .int (.cons (.bin .add (.bin .add (.bin .mul (.ix (.var 0) (.int 0)) (.int 69621)) (.bin .mul (.var 3) (.int 48271))) (.int 12345)) .nil)) (.int 2147483647))) .nil)) .nil))))
    .nil) (.cons (.iff (.cmp .gt (.ix (.var 0) (.int 1)) (.int 0))
    (.cons (.asg (.tg (.nm 4)) (.bin .mod (.blt .int (.cons (.ix (.var 0) (.int 1)) .nil)) (.var 1))) (.cons (.asg (.ix (.var 0) (.int 1)) (.bin .fdiv (.ix (.var 0) (.int 1)) (.var 1))) (.cons (.ret (.var 4)) .nil)))
    .nil) (.cons (.asg (.ix (.var 0) (.int 3)) (.bin .add (.ix (.var 0) (.int 3)) (.int 1))) (.cons (.asg (.ix (.var 0) (.int 0)) (.bin .mod (.blt .int (.cons (.bin .add (.bin .add (.bin .mul (.ix (.var 0) (.int 0)) (.int 48271)) (.bin .mul (.ix (.var 0) (.int 3)) (.int 7919))) (.int 11)) .nil)) (.int 2147483647))) (.cons (.asg (.tg (.nm 5)) (.bin .mod (.blt .int (.cons (.bin .add (.bin .mul (.ix (.var 0) (.int 0)) (.ix (.var 0) (.int 0))) (.ix (.var 0) (.int 3))) .nil)) (.int 2147483629))) (.cons (.ret (.bin .mod (.blt .int (.cons (.bin .fdiv (.var 5) (.int 7)) .nil)) (.var 1))) .nil)))))))
def e_law_draw : DefE := ⟨"_law_draw", topS 17, ["d", "many", "cell", "number", "digit", "mixed"], ["d", "many"], ⟨6, 2, b_law_draw⟩⟩
def b_law_pick : MSs :=
  (.cons (.ret (.ix (.var 1) (.call f_law_draw (.cons (.var 0) (.cons (.blt .len (.cons (.var 1) .nil)) .nil))))) .nil)
def e_law_pick : DefE := ⟨"_law_pick", topS 18, ["d", "row"], ["d", "row"], ⟨2, 2, b_law_pick⟩⟩
def b_law_rare : MSs :=
  (.cons (.ret (.cmp .eq (.call f_law_draw (.cons (.var 0) (.cons (.var 1) .nil))) (.bin .fdiv (.var 1) (.int 2)))) .nil)
def e_law_rare : DefE := ⟨"_law_rare", topS 19, ["d", "many"], ["d", "many"], ⟨2, 2, b_law_rare⟩⟩
def b_law_shuffled : MSs :=
  (.cons (.asg (.tg (.nm 2)) (.blt .list (.cons (.var 1) .nil))) (.cons (.asg (.tg (.nm 3)) (.lst .nil)) (.cons (.for_ (.nm 4) (.rng (.cons (.blt .len (.cons (.var 1) .nil)) .nil))
    (.cons (.ex (.meth .append (.var 3) (.cons (.meth .popAt (.var 2) (.cons (.call f_law_draw (.cons (.var 0) (.cons (.blt .len (.cons (.var 2) .nil)) .nil))) .nil)) .nil))) .nil)) (.cons (.ret (.var 3)) .nil))))
def e_law_shuffled : DefE := ⟨"_law_shuffled", topS 20, ["d", "row", "left", "found", "step"], ["d", "row"], ⟨5, 2, b_law_shuffled⟩⟩
def b_law_pool : MSs :=
  (.cons (.ret (.tup (.cons (.str "a") (.cons (.str "b") (.cons (.str "x") (.cons (.str "y") (.cons (.str "go1") (.cons (.str "seat") (.cons (.str "door7") (.cons (.str "k") (.cons (.str "turn") (.cons (.str "flag0") (.cons (.str "mailbox") (.cons (.str "q2") (.cons (.str "w") (.cons (.str "clerk") (.cons (.str "team") (.cons (.str "p9") (.cons (.str "stock") (.cons (.str "n1") (.cons (.str "alpha") (.cons (.str "zz") (.cons (.str "u3") (.cons (.str "hall") (.cons (.str "desk0") (.cons (.str "r") (.cons (.str "left") (.cons (.str "right") (.cons (.str "inbox") (.cons (.str "t") (.cons (.str "v8") (.cons (.str "bell") (.cons (.str "key1") (.cons (.str "cup") (.cons (.str "m") (.cons (.str "site") (.cons (.str "yard42") (.cons (.str "h") (.cons (.str "j5") (.cons (.str "lamp") (.cons (.str "oneeight") (.cons (.str "abcdefgh") .nil)))))))))))))))))))))))))))))))))))))))))) .nil)
def e_law_pool : DefE := ⟨"_law_pool", topS 21, [], [], ⟨0, 0, b_law_pool⟩⟩
def b_law_full : MSs :=
  (.cons (.ret (.bin .sub (.bin .shl (.int 1) (.var 0)) (.int 1))) .nil)
def e_law_full : DefE := ⟨"_law_full", topS 22, ["size"], ["size"], ⟨1, 1, b_law_full⟩⟩
def b_law_first : MSs :=
  (.cons (.asg (.tg (.nm 2)) (.blt .list (.cons (.fld (.var 0) "counts") .nil))) (.cons (.for_ (.nm 3) (.rng (.cons (.blt .len (.cons (.fld (.var 0) "added") .nil)) .nil))
    (.cons (.asg (.ix (.var 2) (.ix (.fld (.var 0) "added") (.var 3))) (.bin .add (.ix (.var 2) (.ix (.fld (.var 0) "added") (.var 3))) (.ix (.var 1) (.var 3)))) .nil)) (.cons (.ret (.tup (.cons (.blt .tuple (.cons (.fld (.var 0) "start") .nil)) (.cons (.blt .tuple (.cons (.var 2) .nil)) .nil)))) .nil)))
def e_law_first : DefE := ⟨"_law_first", topS 23, ["net", "numbers", "counts", "at"], ["net", "numbers"], ⟨4, 2, b_law_first⟩⟩
def b_law_taken : MSs :=
  (.cons (.for_ (.tp [(.nm 2), (.nm 3)]) (.seq (.ix (.var 0) (.int 1)))
    (.cons (.iff (.cmp .eq (.bin .band (.bin .shr (.var 3) (.ix (.ix (.var 1) (.int 0)) (.var 2))) (.int 1)) (.int 0))
    (.cons (.ret .non) .nil)
    .nil) .nil)) (.cons (.asg (.tg (.nm 4)) (.blt .list (.cons (.ix (.var 1) (.int 1)) .nil))) (.cons (.for_ (.tp [(.nm 2), (.nm 5)]) (.seq (.ix (.var 0) (.int 3)))
    (.cons (.iff (.cmp .lt (.ix (.var 4) (.var 2)) (.var 5))
    (.cons (.ret .non) .nil)
    .nil) (.cons (.asg (.ix (.var 4) (.var 2)) (.bin .sub (.ix (.var 4) (.var 2)) (.var 5))) .nil))) (.cons (.for_ (.tp [(.nm 2), (.nm 5)]) (.seq (.ix (.var 0) (.int 4)))
    (.cons (.asg (.ix (.var 4) (.var 2)) (.bin .add (.ix (.var 4) (.var 2)) (.var 5))) .nil)) (.cons (.asg (.tg (.nm 6)) (.blt .list (.cons (.ix (.var 1) (.int 0)) .nil))) (.cons (.for_ (.tp [(.nm 2), (.nm 7)]) (.seq (.ix (.var 0) (.int 2)))
    (.cons (.asg (.ix (.var 6) (.var 2)) (.var 7)) .nil)) (.cons (.ret (.tup (.cons (.blt .tuple (.cons (.var 6) .nil)) (.cons (.blt .tuple (.cons (.var 4) .nil)) .nil)))) .nil)))))))
def e_law_taken : DefE := ⟨"_law_taken", topS 24, ["row", "state", "number", "mask", "counts", "many", "places", "place"], ["row", "state"], ⟨8, 2, b_law_taken⟩⟩
def b_law_walk : MSs :=
  (.cons (.asg (.tg (.nm 3)) (.orX (.ddis1 (.var 1) (.int 0)) (.ddisN (.var 1) (.int 0)))) (.cons (.asg (.tg (.nm 4)) (.lst (.cons (.var 1) .nil))) (.cons (.asg (.tg (.nm 5)) (.int 0)) (.cons (.whl (.cmp .lt (.var 5) (.blt .len (.cons (.var 4) .nil)))
    (.cons (.for_ (.nm 6) (.seq (.fld (.var 0) "rows"))
    (.cons (.asg (.tg (.nm 7)) (.call f_law_taken (.cons (.var 6) (.cons (.ix (.var 4) (.var 5)) .nil)))) (.cons (.iff (.and (.cmp .notN (.var 7) .non) (.cmp .notin (.var 7) (.var 3)))
    (.cons (.iff (.cmp .ge (.blt .len (.cons (.var 4) .nil)) (.var 2))
    (.cons (.ret .non) .nil)
    .nil) (.cons (.asg (.ix (.var 3) (.var 7)) (.bin .add (.ix (.var 3) (.ix (.var 4) (.var 5))) (.int 1))) (.cons (.ex (.meth .append (.var 4) (.cons (.var 7) .nil))) .nil)))
    .nil) .nil))) (.cons (.asg (.tg (.nm 5)) (.bin .add (.var 5) (.int 1))) .nil))) (.cons (.ret (.var 3)) .nil)))))
def e_law_walk : DefE := ⟨"_law_walk", topS 25, ["net", "first", "most", "steps", "line", "at", "row", "state"], ["net", "first", "most"], ⟨8, 3, b_law_walk⟩⟩
def b_law_mask : MSs :=
  (.cons (.ret (.bin .add (.int 1) (.call f_law_draw (.cons (.var 0) (.cons (.call f_law_full (.cons (.var 1) .nil)) .nil))))) .nil)
def e_law_mask : DefE := ⟨"_law_mask", topS 26, ["d", "size"], ["d", "size"], ⟨2, 2, b_law_mask⟩⟩
def b_law_row : MSs :=
  (.cons (.asg (.tg (.nm 4)) (.lst .nil)) (.cons (.asg (.tg (.nm 5)) (.lst .nil)) (.cons (.for_ (.nm 6) (.rng (.cons (.blt .len (.cons (.var 1) .nil)) .nil))
    (.cons (.asg (.tg (.nm 7)) (.call f_law_draw (.cons (.var 0) (.cons (.int 4) .nil)))) (.cons (.iff (.cmp .gt (.var 7) (.int 1))
    (.cons (.asg (.tg (.nm 8)) (.ite (.cmp .eq (.var 7) (.int 2)) (.bin .shl (.int 1) (.call f_law_draw (.cons (.var 0) (.cons (.ix (.var 1) (.var 6)) .nil)))) (.call f_law_mask (.cons (.var 0) (.cons (.ix (.var 1) (.var 6)) .nil))))) (.cons (.iff (.cmp .ne (.var 8) (.call f_law_full (.cons (.ix (.var 1) (.var 6)) .nil)))
    (.cons (.ex (.meth .append (.var 4) (.cons (.tup (.cons (.var 6) (.cons (.var 8) .nil))) .nil))) .nil)
    .nil) .nil))
    .nil) (.cons (.iff (.cmp .eq (.call f_law_draw (.cons (.var 0) (.cons (.int 2) .nil))) (.int 0))
    (.cons (.ex (.meth .append (.var 5) (.cons (.tup (.cons (.var 6) (.cons (.call f_law_draw (.cons (.var 0) (.cons (.ix (.var 1) (.var 6)) .nil))) .nil))) .nil))) .nil)
    .nil) .nil)))) (.cons (.asg (.tg (.nm 9)) (.lst .nil)) (.cons (.asg (.tg (.nm 10)) (.lst .nil)) (.cons (.for_ (.nm 6) (.rng (.cons (.var 2) .nil))
    (.cons (.asg (.tg (.nm 7)) (.call f_law_draw (.cons (.var 0) (.cons (.int 6) .nil)))) (.cons (.iff (.cmp .isin (.var 7) (.tup (.cons (.int 0) (.cons (.int 2) .nil))))
    (.cons (.ex (.meth .append (.var 9) (.cons (.tup (.cons (.var 6) (.cons (.bin .add (.int 1) (.ite (.call f_law_rare (.cons (.var 0) (.cons (.int 5) .nil))) (.int 1) (.int 0))) .nil))) .nil))) .nil)
    .nil) (.cons (.iff (.cmp .isin (.var 7) (.tup (.cons (.int 1) (.cons (.int 2) .nil))))
    (.cons (.ex (.meth .append (.var 10) (.cons (.tup (.cons (.var 6) (.cons (.int 1) .nil))) .nil))) .nil)
    .nil) .nil)))) (.cons (.ret (.tup (.cons (.var 3) (.cons (.blt .tuple (.cons (.var 4) .nil)) (.cons (.blt .tuple (.cons (.var 5) .nil)) (.cons (.blt .tuple (.cons (.var 9) .nil)) (.cons (.blt .tuple (.cons (.var 10) .nil)) .nil))))))) .nil)))))))
def e_law_row : DefE := ⟨"_law_row", topS 27, ["d", "sizes", "counters", "name", "tests", "sets", "at", "way", "mask", "takes", "puts"], ["d", "sizes", "counters", "name"], ⟨11, 4, b_law_row⟩⟩
def b_law_net_parts : MSs :=
  (.cons (.asg (.tg (.nm 4)) (.call f_law_shuffled (.cons (.var 0) (.cons (.call f_law_pool .nil) .nil)))) (.cons (.asg (.tg (.nm 5)) (.lst .nil)) (.cons (.for_ (.nm 6) (.rng (.cons (.bin .add (.int 1) (.call f_law_draw (.cons (.var 0) (.cons (.var 1) .nil)))) .nil))
    (.cons (.asg (.tg (.nm 7)) (.bin .add (.int 2) (.ite (.call f_law_rare (.cons (.var 0) (.cons (.int 3) .nil))) (.int 1) (.int 0)))) (.cons (.ex (.meth .append (.var 5) (.cons (.tup (.cons (.meth .pop (.var 4) .nil) (.cons (.blt .tuple (.cons (.comp [17] (.nm 17) (.rng (.cons (.var 7) .nil)) .nil (.bin .add (.var 17) (.bin .mul (.call f_law_draw (.cons (.var 0) (.cons (.int 2) .nil))) (.int 10)))) .nil)) .nil))) .nil))) .nil))) (.cons (.asg (.tg (.nm 8)) (.blt .tuple (.cons (.comp [6] (.nm 6) (.rng (.cons (.call f_law_draw (.cons (.var 0) (.cons (.bin .add (.var 2) (.int 1)) .nil))) .nil)) .nil (.bin .add (.meth .pop (.var 4) .nil) (.str ".n"))) .nil))) (.cons (.asg (.tg (.nm 9)) (.comp [15] (.nm 15) (.seq (.var 5)) .nil (.blt .len (.cons (.ix (.var 15) (.int 1)) .nil)))) (.cons (.asg (.tg (.nm 10)) (.lst .nil)) (.cons (.for_ (.nm 6) (.rng (.cons (.bin .add (.int 1) (.call f_law_draw (.cons (.var 0) (.cons (.var 3) .nil)))) .nil))
    (.cons (.asg (.tg (.nm 11)) (.call f_law_pick (.cons (.var 0) (.cons (.tup (.cons (.str "one") (.cons (.str "two") (.cons (.str "two.1") .nil)))) .nil)))) (.cons (.ex (.meth .append (.var 10) (.cons (.call f_law_row (.cons (.var 0) (.cons (.var 9) (.cons (.blt .len (.cons (.var 8) .nil)) (.cons (.bin .add (.bin .add (.bin .add (.var 11) (.str "/")) (.blt .str (.cons (.var 6) .nil))) (.str "/0")) .nil))))) .nil))) .nil))) (.cons (.asg (.tg (.nm 12)) (.blt .tuple (.cons (.orX (.comp [7] (.nm 7) (.seq (.var 9)) .nil (.call f_law_draw (.cons (.var 0) (.cons (.var 7) .nil)))) (.compD [7] (.nm 7) 9 .nil (.call f_law_draw (.cons (.var 0) (.cons (.var 7) .nil))))) .nil))) (.cons (.asg (.tg (.nm 13)) (.blt .tuple (.cons (.orX (.comp [16] (.nm 16) (.seq (.var 8)) .nil (.call f_law_draw (.cons (.var 0) (.cons (.int 3) .nil)))) (.compD [16] (.nm 16) 8 .nil (.call f_law_draw (.cons (.var 0) (.cons (.int 3) .nil))))) .nil))) (.cons (.asg (.tg (.nm 14)) (.blt .tuple (.cons (.comp [6] (.nm 6) (.rng (.cons (.blt .len (.cons (.var 8) .nil)) .nil)) (.cons (.cmp .eq (.call f_law_draw (.cons (.var 0) (.cons (.int 2) .nil))) (.int 0)) .nil) (.var 6)) .nil))) (.cons (.ret (.tup (.cons (.blt .tuple (.cons (.var 5) .nil)) (.cons (.var 8) (.cons (.blt .tuple (.cons (.var 10) .nil)) (.cons (.var 12) (.cons (.var 13) (.cons (.var 14) .nil)))))))) .nil)))))))))))
def e_law_net_parts : DefE := ⟨"_law_net_parts", topS 28, ["d", "variables", "counters", "rows", "names", "known", "at", "size", "told", "sizes", "made", "hand", "start", "counts", "added", "row", "name", "place"], ["d", "variables", "counters", "rows"], ⟨18, 4, b_law_net_parts⟩⟩
def b_law_ring_parts : MSs :=
  (.cons (.asg (.tg (.nm 1)) (.comp [15] (.nm 15) (.rng (.cons (.bin .add (.int 2) (.call f_law_draw (.cons (.var 0) (.cons (.int 2) .nil)))) .nil)) .nil (.bin .add (.int 2) (.call f_law_draw (.cons (.var 0) (.cons (.int 3) .nil)))))) (.cons (.asg (.tg (.nm 2)) (.call f_law_draw (.cons (.var 0) (.cons (.int 2) .nil)))) (.cons (.asg (.tg (.nm 3)) (.lst .nil)) (.cons (.for_ (.nm 4) (.rng (.cons (.blt .len (.cons (.var 1) .nil)) .nil))
    (.cons (.for_ (.nm 5) (.rng (.cons (.ix (.var 1) (.var 4)) .nil))
    (.cons (.asg (.tg (.nm 6)) (.lst (.cons (.tup (.cons (.var 4) (.cons (.bin .shl (.int 1) (.var 5)) .nil))) .nil))) (.cons (.asg (.tg (.nm 7)) (.call f_law_draw (.cons (.var 0) (.cons (.blt .len (.cons (.var 1) .nil)) .nil)))) (.cons (.asg (.tg (.nm 8)) (.call f_law_mask (.cons (.var 0) (.cons (.ix (.var 1) (.var 7)) .nil)))) (.cons (.iff (.and (.cmp .ne (.var 7) (.var 4)) (.and (.cmp .ne (.var 8) (.call f_law_full (.cons (.ix (.var 1) (.var 7)) .nil))) (.cmp .eq (.call f_law_draw (.cons (.var 0) (.cons (.int 3) .nil))) (.int 0))))
    (.cons (.asg (.tg (.nm 6)) (.blt .sorted (.cons (.bin .add (.var 6) (.lst (.cons (.tup (.cons (.var 7) (.cons (.var 8) .nil))) .nil))) .nil))) .nil)
    .nil) (.cons (.asg (.tg (.nm 9)) (.ite (.call f_law_rare (.cons (.var 0) (.cons (.int 5) .nil))) (.call f_law_draw (.cons (.var 0) (.cons (.ix (.var 1) (.var 4)) .nil))) (.bin .mod (.blt .int (.cons (.bin .add (.var 5) (.int 1)) .nil)) (.ix (.var 1) (.var 4))))) (.cons (.asg (.tg (.nm 10)) (.ite (.and (.cmp .eq (.var 2) (.int 1)) (.cmp .eq (.call f_law_draw (.cons (.var 0) (.cons (.int 4) .nil))) (.int 3))) (.tup (.cons (.tup (.cons (.int 0) (.cons (.int 1) .nil))) .nil)) (.tup .nil))) (.cons (.ex (.meth .append (.var 3) (.cons (.tup (.cons (.blt .tuple (.cons (.var 6) .nil)) (.cons (.tup (.cons (.tup (.cons (.var 4) (.cons (.var 9) .nil))) .nil)) (.cons (.var 10) (.cons (.tup .nil) .nil))))) .nil))) .nil)))))))) .nil)) (.cons (.asg (.tg (.nm 3)) (.call f_law_shuffled (.cons (.var 0) (.cons (.var 3) .nil)))) (.cons (.asg (.tg (.nm 3)) (.comp [4] (.nm 4) (.rng (.cons (.blt .len (.cons (.var 3) .nil)) .nil)) .nil (.bin .add (.tup (.cons (.bin .add (.bin .add (.bin .add (.bin .add (.str "h") (.blt .str (.cons (.bin .mod (.blt .int (.cons (.var 4) .nil)) (.int 3)) .nil))) (.str "/")) (.blt .str (.cons (.var 4) .nil))) (.str "/0")) .nil)) (.ix (.var 3) (.var 4))))) (.cons (.asg (.tg (.nm 11)) (.blt .tuple (.cons (.comp [4] (.nm 4) (.rng (.cons (.blt .len (.cons (.var 1) .nil)) .nil)) .nil (.tup (.cons (.bin .add (.str "v") (.blt .str (.cons (.var 4) .nil))) (.cons (.tupRg (.cons (.ix (.var 1) (.var 4)) .nil)) .nil)))) .nil))) (.cons (.asg (.tg (.nm 12)) (.blt .tuple (.cons (.orX (.comp [16] (.nm 16) (.seq (.var 1)) .nil (.call f_law_draw (.cons (.var 0) (.cons (.var 16) .nil)))) (.compD [16] (.nm 16) 1 .nil (.call f_law_draw (.cons (.var 0) (.cons (.var 16) .nil))))) .nil))) (.cons (.asg (.tg (.nm 13)) (.blt .tuple (.cons (.comp [15] (.nm 15) (.rng (.cons (.var 2) .nil)) .nil (.call f_law_draw (.cons (.var 0) (.cons (.int 3) .nil)))) .nil))) (.cons (.asg (.tg (.nm 14)) (.ite (.and (.cmp .eq (.var 2) (.int 1)) (.cmp .eq (.call f_law_draw (.cons (.var 0) (.cons (.int 2) .nil))) (.int 0))) (.tup (.cons (.int 0) .nil)) (.tup .nil))) (.cons (.ret (.tup (.cons (.var 11) (.cons (.sl (.tup (.cons (.str "c.n") .nil)) .no (.so (.var 2))) (.cons (.blt .tuple (.cons (.var 3) .nil)) (.cons (.var 12) (.cons (.var 13) (.cons (.var 14) .nil)))))))) .nil)))))))))))
def e_law_ring_parts : DefE := ⟨"_law_ring_parts", topS 29, ["d", "sizes", "counters", "rows", "at", "place", "tests", "other", "mask", "later", "takes", "known", "start", "counts", "added", "step", "size"], ["d"], ⟨17, 1, b_law_ring_parts⟩⟩
def b_law_is_pair : MSs :=
  (.cons (.iff (.or (.not (.isi (.var 0) .tuple)) (.cmp .ne (.blt .len (.cons (.var 0) .nil)) (.int 2)))
    (.cons (.ret (.bl false)) .nil)
    .nil) (.cons (.for_ (.nm 1) (.seq (.var 0))
    (.cons (.iff (.not (.isi (.var 1) .tuple))
    (.cons (.ret (.bl false)) .nil)
    .nil) (.cons (.for_ (.nm 2) (.seq (.var 1))
    (.cons (.iff (.or (.not (.isi (.var 2) .int)) (.isi (.var 2) .bool))
    (.cons (.ret (.bl false)) .nil)
    .nil) .nil)) .nil))) (.cons (.ret (.bl true)) .nil)))
def e_law_is_pair : DefE := ⟨"_law_is_pair", topS 30, ["told", "part", "number"], ["told"], ⟨3, 1, b_law_is_pair⟩⟩
def b_law_same_states : MSs :=
  (.cons (.iff (.or (.cmp .ne (.ix (.var 0) (.int 0)) (.str "told")) (.or (.not (.isi (.ix (.var 0) (.int 1)) .tuple)) (.cmp .ne (.blt .len (.cons (.ix (.var 0) (.int 1)) .nil)) (.blt .len (.cons (.var 1) .nil)))))
    (.cons (.ret (.bl false)) .nil)
    .nil) (.cons (.ret (.and (.blt .all (.cons (.comp [2] (.nm 2) (.seq (.ix (.var 0) (.int 1))) .nil (.call f_law_is_pair (.cons (.var 2) .nil))) .nil)) (.cmp .eq (.ix (.var 0) (.int 1)) (.var 1)))) .nil))
def e_law_same_states : DefE := ⟨"_law_same_states", topS 31, ["answered", "due", "state"], ["answered", "due"], ⟨3, 2, b_law_same_states⟩⟩
def b_law_answered : MSs :=
  (.cons (.tri (.cons (.iff (.var 3)
    (.cons (.ret (.tup (.cons (.str "told") (.cons (.ite (.cmp .isN (.var 2) .non) (.call fdead_ends (.cons (.var 0) (.cons (.var 1) (.cons (.cst (.int 3000)) .nil)))) (.call fdead_ends (.cons (.var 0) (.cons (.var 1) (.cons (.var 2) .nil))))) .nil)))) .nil)
    .nil) (.cons (.ret (.tup (.cons (.str "told") (.cons (.ite (.cmp .isN (.var 2) .non) (.call fwalk (.cons (.var 0) (.cons (.var 1) (.cons (.cst (.int 3000)) .nil)))) (.call fwalk (.cons (.var 0) (.cons (.var 1) (.cons (.var 2) .nil))))) .nil)))) .nil)) 4 [(1, "part"), (2, "word")]
    (.cons (.iff (.or (.call exIs (.cons (.var 4) (.cons (.cst (.tup [])) .nil))) (.call exIs (.cons (.var 4) (.cons (.cst (.tup [])) .nil))))
    (.cons (.ret (.tup (.cons (.str "other") .nil))) .nil)
    .nil) (.cons (.iff (.call exIs (.cons (.var 4) (.cons (.cst (.tup [.int 2])) .nil)))
    (.cons (.ret (.ite (.call exIs (.cons (.var 4) (.cons (.cst (.tup [.int 1])) .nil))) (.tup (.cons (.str "other") .nil)) (.tup (.cons (.call exFld (.cons (.var 4) (.cons (.str "word") .nil))) .nil)))) .nil)
    .nil) (.cons (.ret (.ite (.call exIs (.cons (.var 4) (.cons (.cst (.tup [.int 1])) .nil))) (.tup (.cons (.call exFld (.cons (.var 4) (.cons (.str "part") .nil))) .nil)) (.tup (.cons (.str "other") .nil)))) .nil)))) .nil)
def e_law_answered : DefE := ⟨"_law_answered", topS 32, ["net", "numbers", "most", "is_ends", "raised"], ["net", "numbers", "most", "is_ends"], ⟨5, 4, b_law_answered⟩⟩
def b_law_long_line : MSs :=
  (.cons (.asg (.tg (.nm 1)) (.bin .add (.int 2999) (.call f_law_draw (.cons (.var 0) (.cons (.int 4) .nil))))) (.cons (.asg (.tg (.nm 2)) (.call f_law_draw (.cons (.var 0) (.cons (.int 3) .nil)))) (.cons (.asg (.tg (.nm 3)) (.comp [9] (.nm 9) (.rng (.cons (.call f_law_draw (.cons (.var 0) (.cons (.int 3) .nil))) .nil)) .nil (.tup (.cons (.bin .add (.bin .add (.str "no/") (.blt .str (.cons (.var 9) .nil))) (.str "/0")) (.cons (.tup .nil) (.cons (.tup .nil) (.cons (.tup (.cons (.tup (.cons (.int 1) (.cons (.int 1) .nil))) .nil)) (.cons (.tup .nil) .nil)))))))) (.cons (.asg (.tg (.nm 4)) (.ite (.cmp .eq (.var 2) (.int 2)) (.tup (.cons (.tup (.cons (.int 0) (.cons (.int 1) .nil))) .nil)) (.tup .nil))) (.cons (.asg (.tg (.nm 3)) (.blt .tuple (.cons (.bin .add (.var 3) (.lst (.cons (.tup (.cons (.str "go/0/0") (.cons (.tup .nil) (.cons (.tup .nil) (.cons (.ite (.cmp .eq (.var 2) (.int 2)) (.tup .nil) (.tup (.cons (.tup (.cons (.int 0) (.cons (.int 1) .nil))) .nil))) (.cons (.var 4) .nil)))))) .nil))) .nil))) (.cons (.asg (.tg (.nm 5)) (.ite (.cmp .eq (.var 2) (.int 1)) (.make 0 ["variables", "counters", "rows", "start", "counts", "added"] (.cons (.tup .nil) (.cons (.tup (.cons (.str "c") (.cons (.str "e") .nil))) (.cons (.var 3) (.cons (.tup .nil) (.cons (.tup (.cons (.int 5) (.cons (.int 0) .nil))) (.cons (.tup (.cons (.int 0) .nil)) .nil))))))) (.make 0 ["variables", "counters", "rows", "start", "counts", "added"] (.cons (.tup .nil) (.cons (.tup (.cons (.str "c") (.cons (.str "e") .nil))) (.cons (.var 3) (.cons (.tup .nil) (.cons (.tup (.cons (.bin .sub (.var 1) (.int 1)) (.cons (.int 0) .nil))) (.cons (.tup .nil) .nil))))))))) (.cons (.asg (.tg (.nm 6)) (.ite (.cmp .eq (.var 2) (.int 1)) (.tup (.cons (.bin .sub (.var 1) (.int 6)) .nil)) (.tup .nil))) (.cons (.asg (.tg (.nm 7)) (.lst (.cons (.call f_law_answered (.cons (.var 5) (.cons (.var 6) (.cons .non (.cons (.bl false) .nil))))) (.cons (.call f_law_answered (.cons (.var 5) (.cons (.var 6) (.cons .non (.cons (.bl true) .nil))))) .nil)))) (.cons (.iff (.or (.cmp .eq (.var 2) (.int 2)) (.cmp .gt (.var 1) (.int 3000)))
    (.cons (.ret (.and (.cmp .eq (.var 7) (.lst (.cons (.tup (.cons (.str "states") .nil)) (.cons (.tup (.cons (.str "states") .nil)) .nil)))) (.cmp .eq (.call f_law_answered (.cons (.var 5) (.cons (.var 6) (.cons (.int 90) (.cons (.bl false) .nil))))) (.tup (.cons (.str "states") .nil))))) .nil)
    .nil) (.cons (.asg (.tg (.nm 8)) (.blt .tuple (.cons (.comp [9] (.nm 9) (.rng (.cons (.var 1) .nil)) .nil (.tup (.cons (.tup .nil) (.cons (.tup (.cons (.bin .sub (.bin .sub (.var 1) (.int 1)) (.var 9)) (.cons (.int 0) .nil))) .nil)))) .nil))) (.cons (.ret (.and (.call f_law_same_states (.cons (.ix (.var 7) (.int 0)) (.cons (.var 8) .nil))) (.call f_law_same_states (.cons (.ix (.var 7) (.int 1)) (.cons (.sl (.var 8) (.so (.neg (.int 1))) .no) .nil))))) .nil)))))))))))
def e_law_long_line : DefE := ⟨"_law_long_line", topS 33, ["d", "many", "way", "rows", "puts", "net", "numbers", "told", "due", "at"], ["d"], ⟨10, 1, b_law_long_line⟩⟩
def b_law_right : MSs :=
  (.cons (.for_ (.nm 6) (.seq (.tup (.cons .non (.cons (.var 4) (.cons (.bin .add (.bin .add (.var 4) (.int 1)) (.call f_law_draw (.cons (.var 0) (.cons (.int 40) .nil)))) .nil)))))
    (.cons (.iff (.not (.call f_law_same_states (.cons (.call f_law_answered (.cons (.var 1) (.cons (.var 2) (.cons (.var 6) (.cons (.var 5) .nil))))) (.cons (.var 3) .nil))))
    (.cons (.ret (.bl false)) .nil)
    .nil) .nil)) (.cons (.iff (.cmp .gt (.var 4) (.int 1))
    (.cons (.for_ (.nm 6) (.seq (.tup (.cons (.bin .sub (.var 4) (.int 1)) (.cons (.bin .add (.int 1) (.call f_law_draw (.cons (.var 0) (.cons (.bin .sub (.var 4) (.int 1)) .nil)))) .nil))))
    (.cons (.iff (.cmp .ne (.call f_law_answered (.cons (.var 1) (.cons (.var 2) (.cons (.var 6) (.cons (.var 5) .nil))))) (.tup (.cons (.str "states") .nil)))
    (.cons (.ret (.bl false)) .nil)
    .nil) .nil)) .nil)
    .nil) (.cons (.iff (.and (.cmp .gt (.blt .len (.cons (.var 2) .nil)) (.int 0)) (.cmp .ne (.call f_law_answered (.cons (.var 1) (.cons (.sl (.var 2) (.so (.int 1)) .no) (.cons .non (.cons (.var 5) .nil))))) (.tup (.cons (.str "numbers") .nil))))
    (.cons (.ret (.bl false)) .nil)
    .nil) (.cons (.ret (.cmp .eq (.call f_law_answered (.cons (.var 1) (.cons (.bin .add (.var 2) (.tup (.cons (.call f_law_draw (.cons (.var 0) (.cons (.int 3) .nil))) .nil))) (.cons .non (.cons (.var 5) .nil))))) (.tup (.cons (.str "numbers") .nil)))) .nil))))
def e_law_right : DefE := ⟨"_law_right", topS 34, ["d", "net", "numbers", "due", "many", "is_ends", "most"], ["d", "net", "numbers", "due", "many", "is_ends"], ⟨7, 6, b_law_right⟩⟩
def blaw : MSs :=
  (.cons (.asg (.tg (.nm 1)) (.call f_law_begin (.cons (.var 0) .nil))) (.cons (.asg (.tg (.nm 2)) (.call f_law_draw (.cons (.var 1) (.cons (.int 8) .nil)))) (.cons (.iff (.cmp .eq (.var 2) (.int 7))
    (.cons (.ret (.call f_law_long_line (.cons (.var 1) .nil))) .nil)
    .nil) (.cons (.asg (.tg (.nm 3)) (.ite (.cmp .gt (.var 2) (.int 3)) (.call f_law_ring_parts (.cons (.var 1) .nil)) (.call f_law_net_parts (.cons (.var 1) (.cons (.int 4) (.cons (.int 2) (.cons (.int 6) .nil))))))) (.cons (.asg (.tg (.nm 4)) (.ite (.cmp .eq (.call f_law_draw (.cons (.var 1) (.cons (.int 24) .nil))) (.int 23)) (.tup .nil) (.ix (.var 3) (.int 2)))) (.cons (.asg (.tg (.nm 5)) (.make 0 ["variables", "counters", "rows", "start", "counts", "added"] (.cons (.ix (.var 3) (.int 0)) (.cons (.ix (.var 3) (.int 1)) (.cons (.var 4) (.cons (.ix (.var 3) (.int 3)) (.cons (.ix (.var 3) (.int 4)) (.cons (.ix (.var 3) (.int 5)) .nil)))))))) (.cons (.asg (.tg (.nm 6)) (.blt .tuple (.cons (.comp [11] (.nm 11) (.seq (.ix (.var 3) (.int 5))) .nil (.call f_law_draw (.cons (.var 1) (.cons (.int 3) .nil)))) .nil))) (.cons (.asg (.tg (.nm 7)) (.call f_law_walk (.cons (.var 5) (.cons (.call f_law_first (.cons (.var 5) (.cons (.var 6) .nil))) (.cons (.int 150) .nil))))) (.cons (.iff (.cmp .isN (.var 7) .non)
    (.cons (.for_ (.nm 8) (.seq (.tup (.cons (.int 150) (.cons (.bin .add (.int 1) (.call f_law_draw (.cons (.var 1) (.cons (.int 150) .nil)))) .nil))))
    (.cons (.iff (.cmp .ne (.call f_law_answered (.cons (.var 5) (.cons (.var 6) (.cons (.var 8) (.cons (.bl false) .nil))))) (.tup (.cons (.str "states") .nil)))
    (.cons (.ret (.bl false)) .nil)
    .nil) (.cons (.iff (.cmp .ne (.call f_law_answered (.cons (.var 5) (.cons (.var 6) (.cons (.var 8) (.cons (.bl true) .nil))))) (.tup (.cons (.str "states") .nil)))
    (.cons (.ret (.bl false)) .nil)
    .nil) .nil))) (.cons (.ret (.bl true)) .nil))
    .nil) (.cons (.asg (.tg (.nm 9)) (.blt .tuple (.cons (.orX (.comp [12] (.nm 12) (.seq (.var 7)) .nil (.var 12)) (.compN [12] (.nm 12) 7 .nil (.var 12))) .nil))) (.cons (.asg (.tg (.nm 10)) (.blt .tuple (.cons (.orX (.comp [12] (.nm 12) (.seq (.var 9)) (.cons (.not (.blt .any (.cons (.comp [13] (.nm 13) (.seq (.fld (.var 5) "rows")) .nil (.cmp .notN (.call f_law_taken (.cons (.var 13) (.cons (.var 12) .nil))) .non)) .nil))) .nil) (.var 12)) (.compD [12] (.nm 12) 9 (.cons (.not (.blt .any (.cons (.comp [13] (.nm 13) (.seq (.fld (.var 5) "rows")) .nil (.cmp .notN (.call f_law_taken (.cons (.var 13) (.cons (.var 12) .nil))) .non)) .nil))) .nil) (.var 12))) .nil))) (.cons (.iff (.or (.not (.call f_law_right (.cons (.var 1) (.cons (.var 5) (.cons (.var 6) (.cons (.var 9) (.cons (.blt .len (.cons (.var 9) .nil)) (.cons (.bl false) .nil)))))))) (.not (.call f_law_right (.cons (.var 1) (.cons (.var 5) (.cons (.var 6) (.cons (.var 10) (.cons (.blt .len (.cons (.var 9) .nil)) (.cons (.bl true) .nil)))))))))
    (.cons (.ret (.bl false)) .nil)
    .nil) (.cons (.ret (.call f_law_same_states (.cons (.call f_law_answered (.cons (.var 5) (.cons (.var 6) (.cons .non (.cons (.bl false) .nil))))) (.cons (.var 9) .nil)))) .nil)))))))))))))
def elaw : DefE := ⟨"law", topS 35, ["script", "d", "way", "parts", "rows", "net", "numbers", "met", "most", "due", "ends", "at", "state", "row"], ["script"], ⟨14, 1, blaw⟩⟩
def es : List DefE := [efirst_state, ecan_take, etaken, ewalk, edead_ends, e_law_begin, e_law_draw, e_law_pick, e_law_rare, e_law_shuffled, e_law_pool, e_law_full, e_law_first, e_law_taken, e_law_walk, e_law_mask, e_law_row, e_law_net_parts, e_law_ring_parts, e_law_is_pair, e_law_same_states, e_law_answered, e_law_long_line, e_law_right, elaw]
theorem tfirst_state : fits (tabOf es cs cls dns xcs xss nns dfs) efirst_state.st efirst_state.d := ⟨by kernel_rfl, rfl, rfl, by kernel_rfl⟩
theorem tcan_take : fits (tabOf es cs cls dns xcs xss nns dfs) ecan_take.st ecan_take.d := ⟨by kernel_rfl, rfl, rfl, by kernel_rfl⟩
theorem ttaken : fits (tabOf es cs cls dns xcs xss nns dfs) etaken.st etaken.d := ⟨by kernel_rfl, rfl, rfl, by kernel_rfl⟩
theorem twalk : fits (tabOf es cs cls dns xcs xss nns dfs) ewalk.st ewalk.d := ⟨by kernel_rfl, rfl, rfl, by kernel_rfl⟩
theorem tdead_ends : fits (tabOf es cs cls dns xcs xss nns dfs) edead_ends.st edead_ends.d := ⟨by kernel_rfl, rfl, rfl, by kernel_rfl⟩
theorem t_law_begin : fits (tabOf es cs cls dns xcs xss nns dfs) e_law_begin.st e_law_begin.d := ⟨by kernel_rfl, rfl, rfl, by kernel_rfl⟩
theorem t_law_draw : fits (tabOf es cs cls dns xcs xss nns dfs) e_law_draw.st e_law_draw.d := ⟨by kernel_rfl, rfl, rfl, by kernel_rfl⟩
theorem t_law_pick : fits (tabOf es cs cls dns xcs xss nns dfs) e_law_pick.st e_law_pick.d := ⟨by kernel_rfl, rfl, rfl, by kernel_rfl⟩
theorem t_law_rare : fits (tabOf es cs cls dns xcs xss nns dfs) e_law_rare.st e_law_rare.d := ⟨by kernel_rfl, rfl, rfl, by kernel_rfl⟩
theorem t_law_shuffled : fits (tabOf es cs cls dns xcs xss nns dfs) e_law_shuffled.st e_law_shuffled.d := ⟨by kernel_rfl, rfl, rfl, by kernel_rfl⟩
theorem t_law_pool : fits (tabOf es cs cls dns xcs xss nns dfs) e_law_pool.st e_law_pool.d := ⟨by kernel_rfl, rfl, rfl, by kernel_rfl⟩
theorem t_law_full : fits (tabOf es cs cls dns xcs xss nns dfs) e_law_full.st e_law_full.d := ⟨by kernel_rfl, rfl, rfl, by kernel_rfl⟩
theorem t_law_first : fits (tabOf es cs cls dns xcs xss nns dfs) e_law_first.st e_law_first.d := ⟨by kernel_rfl, rfl, rfl, by kernel_rfl⟩
theorem t_law_taken : fits (tabOf es cs cls dns xcs xss nns dfs) e_law_taken.st e_law_taken.d := ⟨by kernel_rfl, rfl, rfl, by kernel_rfl⟩
theorem t_law_walk : fits (tabOf es cs cls dns xcs xss nns dfs) e_law_walk.st e_law_walk.d := ⟨by kernel_rfl, rfl, rfl, by kernel_rfl⟩
theorem t_law_mask : fits (tabOf es cs cls dns xcs xss nns dfs) e_law_mask.st e_law_mask.d := ⟨by kernel_rfl, rfl, rfl, by kernel_rfl⟩
theorem t_law_row : fits (tabOf es cs cls dns xcs xss nns dfs) e_law_row.st e_law_row.d := ⟨by kernel_rfl, rfl, rfl, by kernel_rfl⟩
theorem t_law_net_parts : fits (tabOf es cs cls dns xcs xss nns dfs) e_law_net_parts.st e_law_net_parts.d := ⟨by kernel_rfl, rfl, rfl, by kernel_rfl⟩
theorem t_law_ring_parts : fits (tabOf es cs cls dns xcs xss nns dfs) e_law_ring_parts.st e_law_ring_parts.d := ⟨by kernel_rfl, rfl, rfl, by kernel_rfl⟩
theorem t_law_is_pair : fits (tabOf es cs cls dns xcs xss nns dfs) e_law_is_pair.st e_law_is_pair.d := ⟨by kernel_rfl, rfl, rfl, by kernel_rfl⟩
theorem t_law_same_states : fits (tabOf es cs cls dns xcs xss nns dfs) e_law_same_states.st e_law_same_states.d := ⟨by kernel_rfl, rfl, rfl, by kernel_rfl⟩
theorem t_law_answered : fits (tabOf es cs cls dns xcs xss nns dfs) e_law_answered.st e_law_answered.d := ⟨by kernel_rfl, rfl, rfl, by kernel_rfl⟩
theorem t_law_long_line : fits (tabOf es cs cls dns xcs xss nns dfs) e_law_long_line.st e_law_long_line.d := ⟨by kernel_rfl, rfl, rfl, by kernel_rfl⟩
theorem t_law_right : fits (tabOf es cs cls dns xcs xss nns dfs) e_law_right.st e_law_right.d := ⟨by kernel_rfl, rfl, rfl, by kernel_rfl⟩
theorem tlaw : fits (tabOf es cs cls dns xcs xss nns dfs) elaw.st elaw.d := ⟨by kernel_rfl, rfl, rfl, by kernel_rfl⟩
theorem cfirst_state {k : Nat} {a0 a1 : D} {S : Sto} {Q : KD} {E : Ex → Sto → Prop} (h : wpSs (callM (progOf es) k) bfirst_state ⟨fun _ S' => Q .non S', Q, fun _ _ => False, fun _ _ => False, fun x _ S' => E x S'⟩ [some a0, some a1, none, none, none] S) : callM (progOf es) (k + 1) ffirst_state [a0, a1] S Q E := ⟨rfl, h⟩
theorem ccan_take {k : Nat} {a0 a1 : D} {S : Sto} {Q : KD} {E : Ex → Sto → Prop} (h : wpSs (callM (progOf es) k) bcan_take ⟨fun _ S' => Q .non S', Q, fun _ _ => False, fun _ _ => False, fun x _ S' => E x S'⟩ [some a0, some a1, none, none, none, none] S) : callM (progOf es) (k + 1) fcan_take [a0, a1] S Q E := ⟨rfl, h⟩
theorem ctaken {k : Nat} {a0 a1 : D} {S : Sto} {Q : KD} {E : Ex → Sto → Prop} (h : wpSs (callM (progOf es) k) btaken ⟨fun _ S' => Q .non S', Q, fun _ _ => False, fun _ _ => False, fun x _ S' => E x S'⟩ [some a0, some a1, none, none, none, none, none, none] S) : callM (progOf es) (k + 1) ftaken [a0, a1] S Q E := ⟨rfl, h⟩
theorem cwalk {k : Nat} {a0 a1 a2 : D} {S : Sto} {Q : KD} {E : Ex → Sto → Prop} (h : wpSs (callM (progOf es) k) bwalk ⟨fun _ S' => Q .non S', Q, fun _ _ => False, fun _ _ => False, fun x _ S' => E x S'⟩ [some a0, some a1, some a2, none, none, none, none, none, none] S) : callM (progOf es) (k + 1) fwalk [a0, a1, a2] S Q E := ⟨rfl, h⟩
theorem cdead_ends {k : Nat} {a0 a1 a2 : D} {S : Sto} {Q : KD} {E : Ex → Sto → Prop} (h : wpSs (callM (progOf es) k) bdead_ends ⟨fun _ S' => Q .non S', Q, fun _ _ => False, fun _ _ => False, fun x _ S' => E x S'⟩ [some a0, some a1, some a2, none, none] S) : callM (progOf es) (k + 1) fdead_ends [a0, a1, a2] S Q E := ⟨rfl, h⟩
theorem c_law_begin {k : Nat} {a0 : D} {S : Sto} {Q : KD} {E : Ex → Sto → Prop} (h : wpSs (callM (progOf es) k) b_law_begin ⟨fun _ S' => Q .non S', Q, fun _ _ => False, fun _ _ => False, fun x _ S' => E x S'⟩ [some a0] S) : callM (progOf es) (k + 1) f_law_begin [a0] S Q E := ⟨rfl, h⟩
theorem c_law_draw {k : Nat} {a0 a1 : D} {S : Sto} {Q : KD} {E : Ex → Sto → Prop} (h : wpSs (callM (progOf es) k) b_law_draw ⟨fun _ S' => Q .non S', Q, fun _ _ => False, fun _ _ => False, fun x _ S' => E x S'⟩ [some a0, some a1, none, none, none, none] S) : callM (progOf es) (k + 1) f_law_draw [a0, a1] S Q E := ⟨rfl, h⟩
theorem c_law_pick {k : Nat} {a0 a1 : D} {S : Sto} {Q : KD} {E : Ex → Sto → Prop} (h : wpSs (callM (progOf es) k) b_law_pick ⟨fun _ S' => Q .non S', Q, fun _ _ => False, fun _ _ => False, fun x _ S' => E x S'⟩ [some a0, some a1] S) : callM (progOf es) (k + 1) f_law_pick [a0, a1] S Q E := ⟨rfl, h⟩
theorem c_law_rare {k : Nat} {a0 a1 : D} {S : Sto} {Q : KD} {E : Ex → Sto → Prop} (h : wpSs (callM (progOf es) k) b_law_rare ⟨fun _ S' => Q .non S', Q, fun _ _ => False, fun _ _ => False, fun x _ S' => E x S'⟩ [some a0, some a1] S) : callM (progOf es) (k + 1) f_law_rare [a0, a1] S Q E := ⟨rfl, h⟩
theorem c_law_shuffled {k : Nat} {a0 a1 : D} {S : Sto} {Q : KD} {E : Ex → Sto → Prop} (h : wpSs (callM (progOf es) k) b_law_shuffled ⟨fun _ S' => Q .non S', Q, fun _ _ => False, fun _ _ => False, fun x _ S' => E x S'⟩ [some a0, some a1, none, none, none] S) : callM (progOf es) (k + 1) f_law_shuffled [a0, a1] S Q E := ⟨rfl, h⟩
theorem c_law_pool {k : Nat} {S : Sto} {Q : KD} {E : Ex → Sto → Prop} (h : wpSs (callM (progOf es) k) b_law_pool ⟨fun _ S' => Q .non S', Q, fun _ _ => False, fun _ _ => False, fun x _ S' => E x S'⟩ [] S) : callM (progOf es) (k + 1) f_law_pool [] S Q E := ⟨rfl, h⟩
theorem c_law_full {k : Nat} {a0 : D} {S : Sto} {Q : KD} {E : Ex → Sto → Prop} (h : wpSs (callM (progOf es) k) b_law_full ⟨fun _ S' => Q .non S', Q, fun _ _ => False, fun _ _ => False, fun x _ S' => E x S'⟩ [some a0] S) : callM (progOf es) (k + 1) f_law_full [a0] S Q E := ⟨rfl, h⟩
theorem c_law_first {k : Nat} {a0 a1 : D} {S : Sto} {Q : KD} {E : Ex → Sto → Prop} (h : wpSs (callM (progOf es) k) b_law_first ⟨fun _ S' => Q .non S', Q, fun _ _ => False, fun _ _ => False, fun x _ S' => E x S'⟩ [some a0, some a1, none, none] S) : callM (progOf es) (k + 1) f_law_first [a0, a1] S Q E := ⟨rfl, h⟩
theorem c_law_taken {k : Nat} {a0 a1 : D} {S : Sto} {Q : KD} {E : Ex → Sto → Prop} (h : wpSs (callM (progOf es) k) b_law_taken ⟨fun _ S' => Q .non S', Q, fun _ _ => False, fun _ _ => False, fun x _ S' => E x S'⟩ [some a0, some a1, none, none, none, none, none, none] S) : callM (progOf es) (k + 1) f_law_taken [a0, a1] S Q E := ⟨rfl, h⟩
theorem c_law_walk {k : Nat} {a0 a1 a2 : D} {S : Sto} {Q : KD} {E : Ex → Sto → Prop} (h : wpSs (callM (progOf es) k) b_law_walk ⟨fun _ S' => Q .non S', Q, fun _ _ => False, fun _ _ => False, fun x _ S' => E x S'⟩ [some a0, some a1, some a2, none, none, none, none, none] S) : callM (progOf es) (k + 1) f_law_walk [a0, a1, a2] S Q E := ⟨rfl, h⟩
theorem c_law_mask {k : Nat} {a0 a1 : D} {S : Sto} {Q : KD} {E : Ex → Sto → Prop} (h : wpSs (callM (progOf es) k) b_law_mask ⟨fun _ S' => Q .non S', Q, fun _ _ => False, fun _ _ => False, fun x _ S' => E x S'⟩ [some a0, some a1] S) : callM (progOf es) (k + 1) f_law_mask [a0, a1] S Q E := ⟨rfl, h⟩
theorem c_law_row {k : Nat} {a0 a1 a2 a3 : D} {S : Sto} {Q : KD} {E : Ex → Sto → Prop} (h : wpSs (callM (progOf es) k) b_law_row ⟨fun _ S' => Q .non S', Q, fun _ _ => False, fun _ _ => False, fun x _ S' => E x S'⟩ [some a0, some a1, some a2, some a3, none, none, none, none, none, none, none] S) : callM (progOf es) (k + 1) f_law_row [a0, a1, a2, a3] S Q E := ⟨rfl, h⟩
theorem c_law_net_parts {k : Nat} {a0 a1 a2 a3 : D} {S : Sto} {Q : KD} {E : Ex → Sto → Prop} (h : wpSs (callM (progOf es) k) b_law_net_parts ⟨fun _ S' => Q .non S', Q, fun _ _ => False, fun _ _ => False, fun x _ S' => E x S'⟩ [some a0, some a1, some a2, some a3, none, none, none, none, none, none, none, none, none, none, none, none, none, none] S) : callM (progOf es) (k + 1) f_law_net_parts [a0, a1, a2, a3] S Q E := ⟨rfl, h⟩
theorem c_law_ring_parts {k : Nat} {a0 : D} {S : Sto} {Q : KD} {E : Ex → Sto → Prop} (h : wpSs (callM (progOf es) k) b_law_ring_parts ⟨fun _ S' => Q .non S', Q, fun _ _ => False, fun _ _ => False, fun x _ S' => E x S'⟩ [some a0, none, none, none, none, none, none, none, none, none, none, none, none, none, none, none, none] S) : callM (progOf es) (k + 1) f_law_ring_parts [a0] S Q E := ⟨rfl, h⟩
theorem c_law_is_pair {k : Nat} {a0 : D} {S : Sto} {Q : KD} {E : Ex → Sto → Prop} (h : wpSs (callM (progOf es) k) b_law_is_pair ⟨fun _ S' => Q .non S', Q, fun _ _ => False, fun _ _ => False, fun x _ S' => E x S'⟩ [some a0, none, none] S) : callM (progOf es) (k + 1) f_law_is_pair [a0] S Q E := ⟨rfl, h⟩
theorem c_law_same_states {k : Nat} {a0 a1 : D} {S : Sto} {Q : KD} {E : Ex → Sto → Prop} (h : wpSs (callM (progOf es) k) b_law_same_states ⟨fun _ S' => Q .non S', Q, fun _ _ => False, fun _ _ => False, fun x _ S' => E x S'⟩ [some a0, some a1, none] S) : callM (progOf es) (k + 1) f_law_same_states [a0, a1] S Q E := ⟨rfl, h⟩
theorem c_law_answered {k : Nat} {a0 a1 a2 a3 : D} {S : Sto} {Q : KD} {E : Ex → Sto → Prop} (h : wpSs (callM (progOf es) k) b_law_answered ⟨fun _ S' => Q .non S', Q, fun _ _ => False, fun _ _ => False, fun x _ S' => E x S'⟩ [some a0, some a1, some a2, some a3, none] S) : callM (progOf es) (k + 1) f_law_answered [a0, a1, a2, a3] S Q E := ⟨rfl, h⟩
theorem c_law_long_line {k : Nat} {a0 : D} {S : Sto} {Q : KD} {E : Ex → Sto → Prop} (h : wpSs (callM (progOf es) k) b_law_long_line ⟨fun _ S' => Q .non S', Q, fun _ _ => False, fun _ _ => False, fun x _ S' => E x S'⟩ [some a0, none, none, none, none, none, none, none, none, none] S) : callM (progOf es) (k + 1) f_law_long_line [a0] S Q E := ⟨rfl, h⟩
theorem c_law_right {k : Nat} {a0 a1 a2 a3 a4 a5 : D} {S : Sto} {Q : KD} {E : Ex → Sto → Prop} (h : wpSs (callM (progOf es) k) b_law_right ⟨fun _ S' => Q .non S', Q, fun _ _ => False, fun _ _ => False, fun x _ S' => E x S'⟩ [some a0, some a1, some a2, some a3, some a4, some a5, none] S) : callM (progOf es) (k + 1) f_law_right [a0, a1, a2, a3, a4, a5] S Q E := ⟨rfl, h⟩
theorem claw {k : Nat} {a0 : D} {S : Sto} {Q : KD} {E : Ex → Sto → Prop} (h : wpSs (callM (progOf es) k) blaw ⟨fun _ S' => Q .non S', Q, fun _ _ => False, fun _ _ => False, fun x _ S' => E x S'⟩ [some a0, none, none, none, none, none, none, none, none, none, none, none, none, none] S) : callM (progOf es) (k + 1) flaw [a0] S Q E := ⟨rfl, h⟩
theorem fit_all : ∀ e ∈ es, fits (tabOf es cs cls dns xcs xss nns dfs) e.st e.d := by
  simp only [es, List.forall_mem_cons]
  exact ⟨tfirst_state, tcan_take, ttaken, twalk, tdead_ends, t_law_begin, t_law_draw, t_law_pick, t_law_rare, t_law_shuffled, t_law_pool, t_law_full, t_law_first, t_law_taken, t_law_walk, t_law_mask, t_law_row, t_law_net_parts, t_law_ring_parts, t_law_is_pair, t_law_same_states, t_law_answered, t_law_long_line, t_law_right, tlaw, fun _ h => by cases h⟩
end K24
/-! K24A: law k24, nets and their walk: plain. -/
namespace K24
open PySem PySem.Spec PyProof.Rows L2 MP
abbrev Ps := List (Nat × Nat)
theorem getD_set {xs : List Nat} {v w y : Nat} (hv : v < xs.length) : (xs.set v y).getD w 0 = if w = v then y else xs.getD w 0 := by
  simp only [List.getD_eq_getElem?_getD]
  by_cases h : w = v
  · subst h
    rw [if_pos rfl, List.getElem?_set_self hv]
    rfl
  · rw [if_neg h, List.getElem?_set_ne (Ne.symm h)]
def fold (f : Nat → Nat → Nat → Option Nat) : List Nat → Ps → Option (List Nat)
  | xs, [] => some xs
  | xs, (v, p) :: r => match f v (xs.getD v 0) p with
    | some y => fold f (xs.set v y) r
    | none => none
theorem fold_len {f : Nat → Nat → Nat → Option Nat} : ∀ {l : Ps} {xs ys : List Nat}, fold f xs l = some ys → ys.length = xs.length
  | [], xs, ys, h => by cases h; rfl
  | (w, q) :: r, xs, ys, h => by
    simp only [fold] at h
    split at h
    · rw [fold_len h, List.length_set]
    · cases h
def gK (_ x k : Nat) : Option Nat := if x < k then none else some (x - k)
def fK (_ x k : Nat) : Option Nat := some (x + k)
def gS (_ _ p : Nat) : Option Nat := some p
theorem fold_tot {f : Nat → Nat → Nat → Option Nat} (h : ∀ v x p, (f v x p).isSome = true) : ∀ (l : Ps) (xs : List Nat), ∃ ys, fold f xs l = some ys
  | [], xs => ⟨xs, rfl⟩
  | (v, p) :: r, xs => by
    obtain ⟨y, hy⟩ := Option.isSome_iff_exists.mp (h v (xs.getD v 0) p)
    obtain ⟨ys, e⟩ := fold_tot h r (xs.set v y)
    exact ⟨ys, by simp only [fold, hy]; exact e⟩
theorem fold_gK : ∀ {l : Ps} {xs : List Nat}, (l.map Prod.fst).Nodup → (∀ x ∈ l, x.1 < xs.length) → (fold gK xs l).isSome = l.all fun x => decide (x.2 ≤ xs.getD x.1 0)
  | [], xs, _, _ => rfl
  | (v, p) :: r, xs, nd, hl => by
    rw [List.map_cons, List.nodup_cons] at nd
    have hv := hl _ List.mem_cons_self
    have ne : ∀ x ∈ r, x.1 ≠ v := fun x hx z => nd.1 (List.mem_map.mpr ⟨x, hx, z⟩)
    have ih := fold_gK (l := r) (xs := xs.set v (xs.getD v 0 - p)) nd.2 fun x hx => by rw [List.length_set]; exact hl x (List.mem_cons_of_mem _ hx)
    have e : (r.all fun x => decide (x.2 ≤ (xs.set v (xs.getD v 0 - p)).getD x.1 0)) = r.all fun x => decide (x.2 ≤ xs.getD x.1 0) := by
      rw [Bool.eq_iff_iff, List.all_eq_true, List.all_eq_true]
      constructor <;> (intro h x hx; have q := h x hx; rw [getD_set hv, if_neg (ne x hx)] at *; exact q)
    rw [List.all_cons]
    simp only [fold, gK]
    by_cases h : xs.getD v 0 < p
    · rw [if_pos h, decide_eq_false (by omega : ¬ p ≤ xs.getD v 0)]
      rfl
    · rw [if_neg h, decide_eq_true (by omega : p ≤ xs.getD v 0)]
      dsimp only
      rw [ih, e]
      rfl
/-! ### rows, states -/
structure Row where
  t : Ps
  s : Ps
  k : Ps
  p : Ps
structure RowOk (nv nc : Nat) (r : Row) : Prop where
  tb : ∀ x ∈ r.t, x.1 < nv
  sb : ∀ x ∈ r.s, x.1 < nv
  kn : (r.k.map Prod.fst).Nodup
  kb : ∀ x ∈ r.k, x.1 < nc
  pb : ∀ x ∈ r.p, x.1 < nc
abbrev St := List Nat × List Nat
structure StOk (nv nc : Nat) (s : St) : Prop where
  lp : s.1.length = nv
  lc : s.2.length = nc
def takenF (r : Row) (s : St) : Option St :=
  if r.t.all (fun x => x.2.testBit (s.1.getD x.1 0)) = true then (fold gK s.2 r.k).bind fun c1 => (fold fK c1 r.p).bind fun c2 => (fold gS s.1 r.s).map fun p2 => (p2, c2) else none
def canF (r : Row) (s : St) : Bool := r.t.all (fun x => x.2.testBit (s.1.getD x.1 0)) && r.k.all fun x => decide (x.2 ≤ s.2.getD x.1 0)
theorem taken_ok {nv nc : Nat} {r : Row} {s s' : St} (St : StOk nv nc s) (h : takenF r s = some s') : StOk nv nc s' := by
  unfold takenF at h
  split at h
  · obtain ⟨c1, h1, h⟩ := Option.bind_eq_some_iff.mp h
    obtain ⟨c2, h2, h⟩ := Option.bind_eq_some_iff.mp h
    obtain ⟨p2, h3, h⟩ := Option.map_eq_some_iff.mp h
    cases h
    exact ⟨(fold_len h3).trans St.lp, (fold_len h2).trans ((fold_len h1).trans St.lc)⟩
  · cases h
theorem taken_can {nv nc : Nat} {r : Row} {s : St} (R : RowOk nv nc r) (St : StOk nv nc s) : (takenF r s).isSome = canF r s := by
  unfold takenF canF
  have h := fold_gK (l := r.k) (xs := s.2) R.kn fun x hx => by rw [St.lc]; exact R.kb x hx
  by_cases ht : r.t.all (fun x => x.2.testBit (s.1.getD x.1 0)) = true
  · rw [if_pos ht, ht, Bool.true_and, ← h]
    cases hk : fold gK s.2 r.k with
    | none => rfl
    | some c1 =>
      obtain ⟨c2, h2⟩ := fold_tot (f := fK) (fun _ _ _ => rfl) r.p c1
      obtain ⟨p2, h3⟩ := fold_tot (f := gS) (fun _ _ _ => rfl) r.s s.1
      rw [Option.bind_some, h2, Option.bind_some, h3]
      rfl
  · rw [if_neg ht]
    have : r.t.all (fun x => x.2.testBit (s.1.getD x.1 0)) = false := by simpa using ht
    rw [this]
    rfl
/-! ### the walk -/
def addN (L : List St) : Option St → List St
  | none => L
  | some s => if s ∈ L then L else L ++ [s]
def turnU (rs : List Row) (L : List St) (s : St) : List St := rs.foldl (fun L r => addN L (takenF r s)) L
def runU (rs : List Row) : Nat → List St → Nat → List St
  | 0, L, _ => L
  | n + 1, L, i => match L[i]? with
    | none => L
    | some s => runU rs n (turnU rs L s) (i + 1)
theorem addN_pre (L : List St) (o : Option St) : L <+: addN L o := by
  unfold addN
  split
  · exact List.prefix_refl _
  · split
    · exact List.prefix_refl _
    · exact List.prefix_append _ _
theorem turn_pre : ∀ (rs : List Row) (L : List St) (s : St), L <+: turnU rs L s
  | [], L, s => List.prefix_refl _
  | r :: rs, L, s => (addN_pre L _).trans (turn_pre rs _ s)
theorem run_pre (rs : List Row) : ∀ (n : Nat) (L : List St) (i : Nat), L <+: runU rs n L i
  | 0, L, i => List.prefix_refl _
  | n + 1, L, i => by
    unfold runU
    split
    · exact List.prefix_refl _
    · exact (turn_pre rs L _).trans (run_pre rs n _ _)
theorem turn_take {rs : List Row} {L : List St} {s : St} {i : Nat} {r : Row} (h : rs[i]? = some r) : turnU (rs.take (i + 1)) L s = addN (turnU (rs.take i) L s) (takenF r s) := by
  unfold turnU
  rw [List.take_succ, h, List.foldl_append]
  rfl
theorem turn_le {rs : List Row} {L : List St} {s : St} {i : Nat} : turnU (rs.take i) L s <+: turnU rs L s := by
  have : turnU rs L s = turnU (rs.drop i) (turnU (rs.take i) L s) s := by
    unfold turnU
    rw [← List.foldl_append, List.take_append_drop]
  rw [this]
  exact turn_pre _ _ _
theorem addN_ok {nv nc : Nat} {L : List St} {r : Row} {s : St} (hL : ∀ x ∈ L, StOk nv nc x) (hs : StOk nv nc s) : ∀ x ∈ addN L (takenF r s), StOk nv nc x := by
  intro x hx
  unfold addN at hx
  split at hx
  · exact hL x hx
  · rename_i s' h
    split at hx
    · exact hL x hx
    · rcases List.mem_append.mp hx with z | z
      · exact hL x z
      · rw [List.mem_singleton.mp z]
        exact taken_ok hs h
theorem turn_ok {nv nc : Nat} {s : St} (hs : StOk nv nc s) : ∀ {rs : List Row} {L : List St}, (∀ x ∈ L, StOk nv nc x) → ∀ x ∈ turnU rs L s, StOk nv nc x
  | [], L, hL => hL
  | r :: rs, L, hL => turn_ok hs (rs := rs) (addN_ok hL hs)
theorem run_ok {nv nc : Nat} {rs : List Row} : ∀ {n : Nat} {L : List St} {i : Nat}, (∀ x ∈ L, StOk nv nc x) → ∀ x ∈ runU rs n L i, StOk nv nc x
  | 0, L, i, hL => hL
  | n + 1, L, i, hL => by
    unfold runU
    split
    · exact hL
    · rename_i s h
      exact run_ok (turn_ok (hL s (List.mem_of_getElem? h)) hL)
theorem run_more {rs : List Row} {n i : Nat} {L : List St} {s : St} (h : L[i]? = some s) : runU rs (n + 1) L i = runU rs n (turnU rs L s) (i + 1) := by
  conv => lhs; unfold runU
  rw [h]
theorem run_end {rs : List Row} {n i : Nat} {L : List St} (h : L.length ≤ i) : runU rs n L i = L := by
  cases n with
  | zero => rfl
  | succ n =>
    unfold runU
    rw [List.getElem?_eq_none h]
theorem pre_get {L L' : List St} {i : Nat} {s : St} (p : L <+: L') (h : L[i]? = some s) : L'[i]? = some s := by
  obtain ⟨t, rfl⟩ := p
  rw [List.getElem?_append_left (List.getElem?_eq_some_iff.mp h).1]
  exact h
/-! ### keys -/
def nks (l : List Nat) : NestedKey := .tup (l.map fun (p : Nat) => .num (p : Int))
def nkey (s : St) : NestedKey := .tup [nks s.1, nks s.2]
theorem nks_inj {a b : List Nat} (h : nks a = nks b) : a = b := by
  unfold nks at h
  rw [NestedKey.tup.injEq] at h
  exact List.map_inj_right (fun x y e => by rw [NestedKey.num.injEq] at e; exact Int.ofNat.inj e) |>.mp h
theorem nkey_inj {a b : St} (h : nkey a = nkey b) : a = b := by
  unfold nkey at h
  rw [NestedKey.tup.injEq, List.cons.injEq, List.cons.injEq] at h
  exact Prod.ext (nks_inj h.1) (nks_inj h.2.1)
theorem nkOfs_nl : ∀ l : List Nat, nkOfs (nl l) = some (l.map fun (p : Nat) => .num (p : Int))
  | [] => rfl
  | p :: r => by
    show (match nkOf (.int (p : Int)), nkOfs (nl r) with
      | some k, some ks => some (k :: ks)
      | _, _ => none) = _
    rw [nkOfs_nl r]
    rfl
def tN (l : List Nat) : D := .tup (nl l)
def stD (s : St) : D := .tup [tN s.1, tN s.2]
theorem nkOf_tN (l : List Nat) : nkOf (tN l) = some (nks l) := by
  unfold tN
  simp only [nkOf, nkOfs_nl]
  rfl
theorem dep_nums : ∀ l : List Nat, NestedKey.depthAll (l.map fun (p : Nat) => .num (p : Int)) = 0
  | [] => by simp [NestedKey.depthAll]
  | p :: r => by simp [NestedKey.depthAll, NestedKey.depth, dep_nums r]
theorem ndKey_st (s : St) : ndKey (stD s) = some (nkey s) := by
  have e : nkOf (stD s) = some (nkey s) := by
    unfold stD
    simp only [nkOf, nkOfs, nkOf_tN]
    rfl
  unfold stD at *
  unfold ndKey
  simp only [e]
  rw [if_pos]
  unfold nkey nks
  simp [NestedKey.depth, NestedKey.depthAll, dep_nums]
theorem nkD_st (s : St) : nkD (nkey s) = stD s := (ndKey_inv (ndKey_st s)).1
theorem get_none {kvs : List (NestedKey × D)} {L : List St} (h : kvs.map Prod.fst = L.map nkey) (s : St) : (dGet kvs (nkey s)).isSome = decide (s ∈ L) := by
  unfold dGet
  rw [Option.isSome_map, Bool.eq_iff_iff, List.find?_isSome, decide_eq_true_iff]
  constructor
  · rintro ⟨kv, h1, h2⟩
    have : kv.1 ∈ L.map nkey := by rw [← h]; exact List.mem_map.mpr ⟨kv, h1, rfl⟩
    obtain ⟨s', h3, h4⟩ := List.mem_map.mp this
    have := of_decide_eq_true h2
    rw [← h4] at this
    rw [← nkey_inj this]
    exact h3
  · intro hs
    have : nkey s ∈ kvs.map Prod.fst := by rw [h]; exact List.mem_map.mpr ⟨s, hs, rfl⟩
    obtain ⟨kv, h1, h2⟩ := List.mem_map.mp this
    exact ⟨kv, h1, decide_eq_true h2⟩
theorem put_new {kvs : List (NestedKey × D)} {L : List St} (h : kvs.map Prod.fst = L.map nkey) {s : St} (hs : s ∉ L) (v : D) : dPut kvs (nkey s) v = kvs ++ [(nkey s, v)] := by
  unfold dPut
  rw [if_neg]
  intro z
  obtain ⟨kv, h1, h2⟩ := List.any_eq_true.mp z
  have : kv.1 ∈ L.map nkey := by rw [← h]; exact List.mem_map.mpr ⟨kv, h1, rfl⟩
  obtain ⟨s', h3, h4⟩ := List.mem_map.mp this
  have := of_decide_eq_true h2
  rw [← h4] at this
  rw [nkey_inj this] at h3
  exact hs h3
end K24
/-! K24B: law k24, steps walked. -/
namespace K24
open PySem PySem.Spec PyProof.Rows L2 MP
local macro_rules | `(tactic| walk_at "look") => `(tactic| first | assumption | exact g_last | (with_reducible apply g_set; walk_at "look") | ((with_reducible refine g_setn ?h1 ?h2); (case h1 => first | assumption | omega | (apply Ne.symm; assumption)); (case h2 => walk_at "look")) | ((with_reducible refine g_app ?_); walk_at "look") | ((with_reducible refine' Fr.get ?h1 ?h2 ?h3); (case h1 => assumption); (case h2 => first | assumption | omega | (apply Ne.symm; assumption)); (case h3 => walk_at "look")) | ((with_reducible refine' Ch.get ?h1 ?h2 ?h3); (case h1 => assumption); (case h2 => first | assumption | (simp; done) | (simp only [List.mem_cons, List.not_mem_nil, or_false, not_or]; omega)); (case h3 => walk_at "look")))
local macro_rules | `(tactic| walk_at "kn") => `(tactic| first | assumption | omega | (simp; done) | decide)
local macro_rules | `(tactic| walk_at "sz") => `(tactic| first | assumption | (rw [sizeLine_eq]; first | omega | (simp; done) | (simp; omega)))
local macro_rules | `(tactic| walk_at "at") => `(tactic| first | exact rfl | assumption)
local macro_rules | `(tactic| walk_at "mp1") => `(tactic| first
  | with_reducible refine s_cons ?_ | with_reducible refine s_nil ?_ | with_reducible refine s_nm ?_ | with_reducible refine s_ix ?_ | with_reducible refine s_asg ?_ | with_reducible refine s_ex ?_ | with_reducible refine s_iff ?_ | with_reducible refine s_ret ?_ | with_reducible refine s_for ?_
  | ((with_reducible refine' e_var ?h1 ?_); (case h1 => exact rfl)) | with_reducible refine e_int ?_ | with_reducible refine e_bin ?_ | with_reducible refine e_cmp ?_ | with_reducible refine e_ix ?_ | with_reducible refine e_call ?_ | with_reducible refine e_blt ?_ | with_reducible refine e_bl ?_ | with_reducible refine e_and ?_ | with_reducible refine e_or ?_ | with_reducible refine e_not ?_ | with_reducible refine e_ite ?_
  | with_reducible refine es_cons ?_ | with_reducible refine es_nil ?_ | with_reducible refine e_tup ?_ | with_reducible refine e_lst ?_ | with_reducible refine e_meth ?_ | with_reducible refine e_comp ?_ | with_reducible refine e_sl ?_ | with_reducible refine e_neg ?_ | with_reducible refine e_isi ?_ | with_reducible refine e_lrg ?_ | with_reducible refine e_trg ?_ | with_reducible refine e_non ?_ | with_reducible refine e_str ?_ | with_reducible refine e_fnv ?_ | with_reducible refine e_orl ?_ | with_reducible refine e_dnew ?_ | with_reducible refine e_dget ?_ | with_reducible refine e_dget2 ?_
  | with_reducible refine o_no ?_ | with_reducible refine o_so ?_ | with_reducible refine i_rng ?_ | with_reducible refine i_seq ?_ | with_reducible refine i_enum ?_ | with_reducible refine i_rngD ?_ | with_reducible refine if_nil ?_ | with_reducible refine if_cons ?_ | with_reducible refine rg_1 ?_ | with_reducible refine rg_2 ?_
  | with_reducible refine b_add ?_ | with_reducible refine b_sub ?_ | ((with_reducible refine' b_mul ?h1 ?_); (case h1 => first | assumption | mul_fits)) | ((with_reducible refine' b_fdiv ?h1 ?h2 ?_); (case h1 => walk_at "kn"); (case h2 => first | assumption | decide)) | ((with_reducible refine' b_mod ?h1 ?_); (case h1 => walk_at "kn")) | ((with_reducible refine' b_pow ?h1 ?_); (case h1 => first | assumption | exact ⟨by decide, by decide, by decide⟩)) | ((with_reducible refine' b_shr ?h1 ?_); (case h1 => walk_at "kn")) | ((with_reducible refine' b_shl ?h1 ?_); (case h1 => assumption)) | with_reducible refine b_and ?_ | with_reducible refine b_or ?_ | with_reducible refine b_xor ?_
  | with_reducible refine c_lt ?_ | with_reducible refine c_le ?_ | with_reducible refine c_gt ?_ | with_reducible refine c_ge ?_ | with_reducible refine c_eqi ?_ | with_reducible refine c_nei ?_ | with_reducible refine c_eqb ?_ | with_reducible refine c_neb ?_ | with_reducible refine c_eqs ?_ | with_reducible refine c_nes ?_
  | with_reducible refine t_bl ?_ | with_reducible refine t_int ?_ | with_reducible refine t_tup ?_ | with_reducible refine t_non ?_
  | ((with_reducible refine' x_ref ?h1 ?h2 ?_); (case h1 => walk_at "look"); (case h2 => walk_at "at")) | ((with_reducible refine' x_tup ?h1 ?_); (case h1 => walk_at "at")) | ((with_reducible refine' x_klst ?h1 ?_); (case h1 => walk_at "at"))
  | ((with_reducible refine' set_ref ?h1 ?h2 ?_); (case h1 => walk_at "look"); (case h2 => walk_at "at"))
  | ((with_reducible refine' f_lenr ?h1 ?_); (case h1 => walk_at "look")) | with_reducible refine f_lent ?_ | with_reducible refine f_lenk ?_ | with_reducible refine f_int ?_ | ((with_reducible refine' f_listr ?h1 ?_); (case h1 => walk_at "look")) | with_reducible refine f_listt ?_ | with_reducible refine f_listk ?_ | ((with_reducible refine' f_tupr ?h1 ?_); (case h1 => walk_at "look")) | with_reducible refine f_tupt ?_ | with_reducible refine f_max ?_ | with_reducible refine f_min ?_
  | with_reducible refine sl_klst ?_ | ((with_reducible refine' sl_ref ?h1 ?_); (case h1 => walk_at "look")) | with_reducible refine sl_tup ?_
  | ((with_reducible refine' m_app ?h1 ?h2 ?_); (case h1 => walk_at "look"); (case h2 => walk_at "sz")) | ((with_reducible refine' m_ext ?h1 ?h2 ?h3 ?_); (case h1 => walk_at "look"); (case h2 => walk_at "look"); (case h3 => walk_at "sz")) | ((with_reducible refine' m_extT ?h1 ?h3 ?_); (case h1 => walk_at "look"); (case h3 => walk_at "sz"))
  | with_reducible refine k_t ?_ | with_reducible refine k_f ?_ | with_reducible refine k_nt ?_ | with_reducible refine k_nf ?_
  | ((with_reducible refine' d_t ?h1 ?_); (case h1 => first | assumption | omega)) | ((with_reducible refine' d_f ?h1 ?_); (case h1 => first | assumption | omega)) | ((with_reducible refine' d_nt ?h1 ?_); (case h1 => first | assumption | omega)) | ((with_reducible refine' d_nf ?h1 ?_); (case h1 => first | assumption | omega))
  | ((with_reducible refine' And.intro (r_lst ?h1 ?h2) ?_); (case h1 => decide); (case h2 => walk_at "look")) | (with_reducible refine And.intro r_int ?_)
  | ((with_reducible refine And.intro ?h1 ?_); (case h1 => (with_reducible show List.length _ ≤ sizeLine); walk_at "sz"))
  | dsimp only
  | dsimp only [isTy_int, isTy_bl, isTy_str, isTy_non, isTy_tup])
local macro_rules | `(tactic| walk_at "mp") => `(tactic| repeat walk_at "mp1")
local macro_rules | `(tactic| walk_at "tx1") => `(tactic| first
  | walk_at "mp1"
  | with_reducible refine e_cst ?_ | ((with_reducible refine' f_lens ?h1 ?_); (case h1 => walk_at "sz"))
  | ((with_reducible refine' x_str ?h1 ?h2 ?_); (case h1 => walk_at "sz"); (case h2 => walk_at "at"))
  | ((with_reducible refine' sl_str' ?h1 ?_); (case h1 => walk_at "sz")))
local macro_rules | `(tactic| walk_at "tx") => `(tactic| repeat walk_at "tx1")

abbrev C (k : Nat) : CallT := callM (progOf es) k
theorem hC (k : Nat) : CallMono (C k) (C k) := callM_mono (progOf es) k
theorem draw_is {k : Nat} (h : 1 ≤ k) : DrawSpec (C k) f_law_draw := by
  obtain ⟨k, rfl⟩ := up h
  exact fun a b many S Q E ds hm q => c_law_draw (draw_ok ds hm q)
theorem shl1 {p : Nat} (h : p < 64) : CShl 1 (p : Int) := shl_ok (n := 1) (by decide) (by omega)
theorem one_shl (p : Nat) : (1 : Int) * 2 ^ ((p : Int)).toNat = ((2 ^ p : Nat) : Int) := by
  rw [Int.one_mul, Int.toNat_natCast, Int.natCast_pow]; rfl
theorem band_nat (m p : Nat) : Builtin.bitAnd (m : Int) (p : Int) = ((m &&& p : Nat) : Int) := by
  rw [bitAnd_pp (Int.natCast_nonneg _) (Int.natCast_nonneg _), Int.toNat_natCast, Int.toNat_natCast]
theorem shr_nat (m p : Nat) : (m : Int) / 2 ^ ((p : Int)).toNat = ((m / 2 ^ p : Nat) : Int) := by
  rw [Int.toNat_natCast, Int.natCast_ediv, Int.natCast_pow]; rfl
theorem tb_one (m p : Nat) : Builtin.bitAnd ((m / 2 ^ p : Nat) : Int) 1 = if m.testBit p then 1 else 0 := by
  have e : ((1 : Nat) : Int) = 1 := rfl
  rw [← e, band_nat, Nat.testBit_eq_decide_div_mod_eq, Nat.and_one_is_mod]
  rcases Nat.mod_two_eq_zero_or_one (m / 2 ^ p) with h | h <;> rw [h] <;> simp
/-! ### things -/
def pD (x : Nat × Nat) : D := .tup [.int (x.1 : Nat), .int (x.2 : Nat)]
def psD (l : Ps) : D := .tup (l.map pD)
def rD (nm : D) (r : Row) : D := .tup [nm, psD r.t, psD r.s, psD r.k, psD r.p]
def cD (ms ns : List Nat) : D := .tup [tN ms, tN ns]
def oD : Option St → D
  | none => .non
  | some s => stD s
theorem nl_gd {l : List Nat} {v : Nat} (h : v < l.length) : (nl l)[v]? = some (.int (l.getD v 0 : Nat)) := by
  rw [nl_lt h, List.getD_eq_getElem?_getD, List.getElem?_eq_getElem h]
  rfl
theorem at_gd {l : List Nat} {v : Nat} (h : v < l.length) : atI (nl l) (v : Int) = some (.int (l.getD v 0 : Nat)) := atI_nat (nl_gd h)
theorem ixN_at {n v : Nat} (h : v < n) : ixN n (v : Int) = some v := by
  unfold ixN
  rw [if_pos (by omega), if_pos (by omega)]
  simp
theorem nl_set (l : List Nat) (v y : Nat) : (nl l).set v (.int (y : Nat)) = nl (l.set v y) := by
  unfold nl
  rw [List.map_set]
section
variable {k : Nat} {S : Sto} {Q : KD} {E : Ex → Sto → Prop}
theorem x_nl {l : List Nat} {v : Nat} (h : v < l.length) (q : Q (.int (l.getD v 0 : Nat)) S) : wpIx (tN l) (.int (v : Nat)) S Q := x_tup (at_gd h) q
theorem x_rl {a : Nat} {l : List Nat} {v : Nat} (g : S[a]? = some (.lst (nl l))) (h : v < l.length) (q : Q (.int (l.getD v 0 : Nat)) S) : wpIx (.ref a) (.int (v : Nat)) S Q := x_ref g (at_gd h) q
theorem set_rl {a v y : Nat} {l : List Nat} {R : Sto → Prop} (g : S[a]? = some (.lst (nl l))) (h : v < l.length) (q : R (S.set a (.lst (nl (l.set v y))))) : wpSet (.ref a) (.int (v : Nat)) (.int (y : Nat)) S R := set_ref g (ixN_at (by rw [nl_len]; exact h)) (by rw [nl_set]; exact q)
theorem x_c0 {ms ns : List Nat} (q : Q (tN ms) S) : wpIx (cD ms ns) (.int 0) S Q := x_tup rfl q
theorem x_c1 {ms ns : List Nat} (q : Q (tN ns) S) : wpIx (cD ms ns) (.int 1) S Q := x_tup rfl q
theorem x_r1 {nm : D} {r : Row} (q : Q (psD r.t) S) : wpIx (rD nm r) (.int 1) S Q := x_tup rfl q
theorem x_r2 {nm : D} {r : Row} (q : Q (psD r.s) S) : wpIx (rD nm r) (.int 2) S Q := x_tup rfl q
theorem x_r3 {nm : D} {r : Row} (q : Q (psD r.k) S) : wpIx (rD nm r) (.int 3) S Q := x_tup rfl q
theorem x_r4 {nm : D} {r : Row} (q : Q (psD r.p) S) : wpIx (rD nm r) (.int 4) S Q := x_tup rfl q
variable {c : CallT} {σ : MP.Env} {a b : MX}
theorem e_bit {m p : Nat} (h1 : ∀ Q' : KD, Q' (.int (m : Nat)) S → wpE c a E σ S Q') (h2 : ∀ Q' : KD, Q' (.int (p : Nat)) S → wpE c b E σ S Q') (q : Q (.int (if m.testBit p then 1 else 0)) S) : wpE c (.bin .band (.bin .shr a b) (.int 1)) E σ S Q :=
  e_bin (e_bin (h1 _ (h2 _ (b_shr (by omega) (e_int (b_and (by rw [shr_nat, tb_one]; exact q)))))))
theorem e_bit0 {m p : Nat} (h1 : ∀ Q' : KD, Q' (.int (m : Nat)) S → wpE c a E σ S Q') (h2 : ∀ Q' : KD, Q' (.int (p : Nat)) S → wpE c b E σ S Q') (q : Q (.bl (!m.testBit p)) S) : wpE c (.cmp .eq (.bin .band (.bin .shr a b) (.int 1)) (.int 0)) E σ S Q := by
  refine e_cmp (e_bit h1 h2 (e_int (c_eqi ?_)))
  cases h : m.testBit p <;> (rw [h] at q; exact q)
theorem e_bit1 {m p : Nat} (h1 : ∀ Q' : KD, Q' (.int (m : Nat)) S → wpE c a E σ S Q') (h2 : ∀ Q' : KD, Q' (.int (p : Nat)) S → wpE c b E σ S Q') (q : Q (.bl (m.testBit p)) S) : wpE c (.cmp .eq (.bin .band (.bin .shr a b) (.int 1)) (.int 1)) E σ S Q := by
  refine e_cmp (e_bit h1 h2 (e_int (c_eqi ?_)))
  cases h : m.testBit p <;> (rw [h] at q; exact q)
theorem b_2 {t : Bool} {A B : Prop} (h1 : t = true → A) (h2 : t = false → B) : if t = true then A else B := by
  cases t with
  | true => exact k_t (h1 rfl)
  | false => exact k_f (h2 rfl)
theorem nb_2 {t : Bool} {A B : Prop} (h1 : t = false → A) (h2 : t = true → B) : if (!t) = true then A else B := by
  cases t with
  | true => exact h2 rfl
  | false => exact h1 rfl
end
/-! ### walks over pairs -/
section
variable {c : CallT} {ss : MSs} {rt : KD} {nx : MP.Env → Sto → Prop} {ex : Ex → MP.Env → Sto → Prop} {i j : Nat} {f : Nat → Nat → Nat → Option Nat} {S0 : Sto} {P : List Nat → MP.Env → Sto → Prop} {l0 : Ps}
theorem for_fold (hs : ∀ (x : Nat × Nat) (xs : List Nat) (σ : MP.Env) (S : Sto) (K : MP.Env → Sto → Prop), x ∈ l0 → P xs σ S → (∀ y σ' S', f x.1 (xs.getD x.1 0) x.2 = some y → P (xs.set x.1 y) σ' S' → K σ' S') → (f x.1 (xs.getD x.1 0) x.2 = none → ∀ S', Ch [] S0 S' → rt .non S') → wpSs c ss ⟨K, rt, nx, K, ex⟩ ((σ.set i (some (.int (x.1 : Nat)))).set j (some (.int (x.2 : Nat)))) S) :
    ∀ (l : Ps) (xs : List Nat) (σ : MP.Env) (S : Sto), (∀ x ∈ l, x ∈ l0) → P xs σ S → (fold f xs l = none → ∀ S', Ch [] S0 S' → rt .non S') → (∀ ys σ' S', fold f xs l = some ys → P ys σ' S' → nx σ' S') → wpFor [] (forB c (.tp [.nm i, .nm j]) ss rt nx ex) nx (l.map pD) σ S
  | [], xs, σ, S, _, hP, _, q => ⟨gd_nil, q xs σ S rfl hP⟩
  | x :: r, xs, σ, S, hl, hP, hn, q => by
    refine ⟨gd_nil, ?_⟩
    show wpSs c ss ⟨wpFor [] (forB c (.tp [.nm i, .nm j]) ss rt nx ex) nx (r.map pD), rt, nx, wpFor [] (forB c (.tp [.nm i, .nm j]) ss rt nx ex) nx (r.map pD), ex⟩ ((σ.set i (some (.int (x.1 : Nat)))).set j (some (.int (x.2 : Nat)))) S
    refine hs x xs σ S _ (hl x List.mem_cons_self) hP (fun y σ' S' hy hP' => ?_) (fun hy => hn (by obtain ⟨v, p⟩ := x; simp only [fold]; rw [show f v (xs.getD v 0) p = none from hy]))
    have e : fold f xs (x :: r) = fold f (xs.set x.1 y) r := by
      obtain ⟨v, p⟩ := x
      simp only [fold]
      rw [show f v (xs.getD v 0) p = some y from hy]
    rw [e] at hn q
    exact for_fold hs r _ σ' S' (fun z hz => hl z (List.mem_cons_of_mem _ hz)) hP' hn q
end
section
variable {k : Nat} {S : Sto} {Q : KD} {E : Ex → Sto → Prop}
theorem full2 (n : Nat) : (((2 ^ n : Nat) : Int) - 1) = ((2 ^ n - 1 : Nat) : Int) := by have := Nat.two_pow_pos n; omega
theorem lfull_ok (hk : 1 ≤ k) {n : Nat} (h : n ≤ 40) (q : Q (.int (2 ^ n - 1 : Nat)) S) : C k f_law_full [.int (n : Nat)] S Q E := by
  obtain ⟨k, rfl⟩ := up hk
  refine c_law_full ?_
  have hlt := shl1 (p := n) (by omega)
  unfold b_law_full
  walk_at "mp"
  rw [one_shl, full2]
  exact q
theorem two_sz : (2 : Nat) ≤ sizeLine := by decide
/-- a list that stands at a -/
def At (S0 : Sto) (a : Nat) (n : Nat) (F : MP.Env → Prop) (xs : List Nat) (σ : MP.Env) (S : Sto) : Prop := Ch [] S0 S ∧ S[a]? = some (.lst (nl xs)) ∧ xs.length = n ∧ F σ
theorem ltaken_ok (hk : 1 ≤ k) {nv nc : Nat} {r : Row} {nm : D} {s : St} (R : RowOk nv nc r) (St : StOk nv nc s) (q : RetV S (oD (takenF r s)) Q) : C k f_law_taken [rD nm r, stD s] S Q E := by
  obtain ⟨pl, ct⟩ := s
  show C k f_law_taken [rD nm r, cD pl ct] S Q E
  obtain ⟨k, rfl⟩ := up hk
  unfold takenF at q
  refine c_law_taken ?_
  unfold b_law_taken
  have lp : pl.length = nv := St.lp
  have lc : ct.length = nc := St.lc
  dsimp only at q
  refine s_cons (s_for (i_seq (e_ix (e_var rfl (e_int (x_r1 ?_))))))
  dsimp only [psD]
  refine for_inv (hC k) (fun i σ S' => S' = S ∧ (∀ x ∈ r.t.take i, x.2.testBit (pl.getD x.1 0) = true) ∧ ∃ s2 s3 s4 s5 s6 s7, σ = [some (rD nm r), some (cD pl ct), s2, s3, s4, s5, s6, s7]) ⟨rfl, (fun _ z => nomatch z), _, _, _, _, _, _, rfl⟩ (fun _ _ _ _ _ => gd_nil) (fun i x σ S1 hx h => ?_) fun σ S1 h => ?_
  · obtain ⟨rfl, hb, s2, s3, s4, s5, s6, s7, rfl⟩ := h
    rw [List.getElem?_map] at hx
    obtain ⟨⟨v, m⟩, hx', rfl⟩ := Option.map_eq_some_iff.mp hx
    have hm := List.mem_of_getElem? hx'
    have hv := R.tb _ hm
    have hv1 : v < pl.length := by simp only [] at hv; omega
    dsimp only [pD, asg, asgs, List.set]
    refine s_cons (s_iff (e_bit0 (m := m) (p := pl.getD v 0) (fun Q' q' => e_var rfl q') (fun Q' q' => e_ix (e_ix (e_var rfl (e_int (x_c0 (e_var rfl (x_nl hv1 q')))))))  (t_bl (nb_2 (fun hb => ?_) fun hb2 => ?_))))
    · refine s_cons (s_ret (e_non ?_))
      rw [if_neg] at q
      · exact q _ Ch.refl
      · intro z
        have := List.all_eq_true.mp z _ hm
        rw [show (v, m).2.testBit (pl.getD (v, m).1 0) = false from hb] at this
        cases this
    · refine s_nil (s_nil ⟨rfl, fun x hx2 => ?_, _, _, _, _, _, _, rfl⟩)
      rw [List.take_add_one, hx'] at hx2
      rcases List.mem_append.mp hx2 with z | z
      · exact hb x z
      · simp at z
        subst z
        exact hb2
  obtain ⟨rfl, hb, s2, s3, s4, s5, s6, s7, rfl⟩ := h
  rw [List.length_map, List.take_length] at hb
  rw [if_pos (List.all_eq_true.mpr hb)] at q
  refine s_cons (s_nm (e_blt (es_cons (e_ix (e_var rfl (e_int (x_c1 (es_nil (f_listt ?_)))))))))
  dsimp only [List.set]
  refine s_cons (s_for (i_seq (e_ix (e_var rfl (e_int (x_r3 ?_))))))
  dsimp only [psD]
  refine for_fold (S0 := S1) (f := gK) (l0 := r.k) (P := At S1 S1.length ct.length fun σ => ∃ s2 s3 s5 s6 s7, σ = [some (rD nm r), some (cD pl ct), s2, s3, some (.ref S1.length), s5, s6, s7]) (fun x xs σ S2 K hx h hK hn => ?_) r.k ct _ _ (fun _ z => z) ⟨Ch.refl.app, g_last, rfl, _, _, _, _, _, rfl⟩ (fun e S' c' => ?_) fun c1 σ S2 e h => ?_
  · obtain ⟨ch, g, hl, s2, s3, s5, s6, s7, rfl⟩ := h
    obtain ⟨v, m⟩ := x
    have hv := R.kb _ hx
    dsimp only [List.set] at hv ⊢
    have hv1 : v < xs.length := by omega
    refine s_cons (s_iff (e_cmp (e_ix (e_var rfl (e_var rfl (x_rl g hv1 (e_var rfl (c_lt (t_bl (d_2 (fun hb => ?_) fun hb => ?_))))))))))
    · refine s_cons (s_ret (e_non (hn ?_ _ ch)))
      show gK v (xs.getD v 0) m = none
      unfold gK
      rw [if_pos (by omega)]
    · refine s_nil (s_cons (s_ix (e_bin (e_ix (e_var rfl (e_var rfl (x_rl g hv1 (e_var rfl (b_sub ?_)))))))))
      refine e_var rfl (e_var rfl ?_)
      rw [show ((xs.getD v 0 : Nat) : Int) - (m : Nat) = ((xs.getD v 0 - m : Nat) : Int) by omega]
      refine set_rl g hv1 (s_nil (hK (xs.getD v 0 - m) _ _ ?_ ⟨ch.setn (Nat.le_refl _), g_set g, by rw [List.length_set]; exact hl, _, _, _, _, _, rfl⟩))
      show gK v (xs.getD v 0) m = _
      unfold gK
      rw [if_neg (by omega)]
  · rw [e] at q
    exact q S' c'
  obtain ⟨ch, g, hl, s2, s3, s5, s6, s7, rfl⟩ := h
  rw [e, Option.bind_some] at q
  clear e
  refine s_cons (s_for (i_seq (e_ix (e_var rfl (e_int (x_r4 ?_))))))
  dsimp only [psD]
  refine for_fold (S0 := S1) (f := fK) (l0 := r.p) (P := At S1 S1.length ct.length fun σ => ∃ s2 s3 s5 s6 s7, σ = [some (rD nm r), some (cD pl ct), s2, s3, some (.ref S1.length), s5, s6, s7]) (fun x xs σ S2 K hx h hK hn => ?_) r.p c1 _ _ (fun _ z => z) ⟨ch, g, hl, _, _, _, _, _, rfl⟩ (fun e S' c' => ?_) fun c2 σ S3 e h => ?_
  · obtain ⟨ch, g, hl, s2, s3, s5, s6, s7, rfl⟩ := h
    obtain ⟨v, m⟩ := x
    have hv := R.pb _ hx
    dsimp only [List.set] at hv ⊢
    have hv1 : v < xs.length := by omega
    refine s_cons (s_ix (e_bin (e_ix (e_var rfl (e_var rfl (x_rl g hv1 (e_var rfl (b_add ?_))))))))
    refine e_var rfl (e_var rfl ?_)
    rw [show ((xs.getD v 0 : Nat) : Int) + (m : Nat) = ((xs.getD v 0 + m : Nat) : Int) by omega]
    exact set_rl g hv1 (s_nil (hK (xs.getD v 0 + m) _ _ rfl ⟨ch.setn (Nat.le_refl _), g_set g, by rw [List.length_set]; exact hl, _, _, _, _, _, rfl⟩))
  · rw [e] at q
    exact q S' c'
  obtain ⟨ch, g, hl, s2, s3, s5, s6, s7, rfl⟩ := h
  rw [e, Option.bind_some] at q
  clear e
  refine s_cons (s_nm (e_blt (es_cons (e_ix (e_var rfl (e_int (x_c0 (es_nil (f_listt ?_)))))))))
  dsimp only [List.set]
  have lt := g_lt g
  refine s_cons (s_for (i_seq (e_ix (e_var rfl (e_int (x_r2 ?_))))))
  dsimp only [psD]
  refine for_fold (S0 := S1) (f := gS) (l0 := r.s) (P := fun xs σ S' => S'[S1.length]? = some (.lst (nl c2)) ∧ At S1 S3.length pl.length (fun σ => ∃ s2 s3 s5 s7, σ = [some (rD nm r), some (cD pl ct), s2, s3, some (.ref S1.length), s5, some (.ref S3.length), s7]) xs σ S') (fun x xs σ S2 K hx h hK hn => ?_) r.s pl _ _ (fun _ z => z) ⟨g_app g, ch.app, g_last, rfl, _, _, _, _, rfl⟩ (fun e S' c' => ?_) fun p2 σ S4 e h => ?_
  · obtain ⟨gm, ch, g, hl, s2, s3, s5, s7, rfl⟩ := h
    obtain ⟨v, m⟩ := x
    have hv := R.sb _ hx
    dsimp only [List.set] at hv ⊢
    have hv1 : v < xs.length := by omega
    refine s_cons (s_ix (e_var rfl (e_var rfl (e_var rfl ?_))))
    exact set_rl g hv1 (s_nil (hK m _ _ rfl ⟨g_setn (by omega) gm, ch.setn (by omega), g_set g, by rw [List.length_set]; exact hl, _, _, _, _, rfl⟩))
  · rw [e] at q
    exact q S' c'
  obtain ⟨gm, ch, g, hl, s2, s3, s5, s7, rfl⟩ := h
  rw [e, Option.map_some] at q
  exact s_cons (s_ret (e_tup (es_cons (e_blt (es_cons (e_var rfl (es_nil (f_tupr g (es_cons (e_blt (es_cons (e_var rfl (es_nil (f_tupr gm (es_nil ⟨two_sz, q S4 ch⟩)))))))))))))))
end
end K24
/-! K24C: law k24, the program's steps; first states. -/
namespace K24
open PySem PySem.Spec PyProof.Rows L2 MP
local macro_rules | `(tactic| walk_at "look") => `(tactic| first | assumption | exact g_last | (with_reducible apply g_set; walk_at "look") | ((with_reducible refine g_setn ?h1 ?h2); (case h1 => first | assumption | omega | (apply Ne.symm; assumption)); (case h2 => walk_at "look")) | ((with_reducible refine g_app ?_); walk_at "look") | ((with_reducible refine' Fr.get ?h1 ?h2 ?h3); (case h1 => assumption); (case h2 => first | assumption | omega | (apply Ne.symm; assumption)); (case h3 => walk_at "look")) | ((with_reducible refine' Ch.get ?h1 ?h2 ?h3); (case h1 => assumption); (case h2 => first | assumption | (simp; done) | (simp only [List.mem_cons, List.not_mem_nil, or_false, not_or]; omega)); (case h3 => walk_at "look")))
local macro_rules | `(tactic| walk_at "kn") => `(tactic| first | assumption | omega | (simp; done) | decide)
local macro_rules | `(tactic| walk_at "sz") => `(tactic| first | assumption | (rw [sizeLine_eq]; first | omega | (simp; done) | (simp; omega)))
local macro_rules | `(tactic| walk_at "at") => `(tactic| first | exact rfl | assumption)
local macro_rules | `(tactic| walk_at "mp1") => `(tactic| first
  | with_reducible refine s_cons ?_ | with_reducible refine s_nil ?_ | with_reducible refine s_nm ?_ | with_reducible refine s_ix ?_ | with_reducible refine s_asg ?_ | with_reducible refine s_ex ?_ | with_reducible refine s_iff ?_ | with_reducible refine s_ret ?_ | with_reducible refine s_for ?_
  | ((with_reducible refine' e_var ?h1 ?_); (case h1 => exact rfl)) | with_reducible refine e_int ?_ | with_reducible refine e_bin ?_ | with_reducible refine e_cmp ?_ | with_reducible refine e_ix ?_ | with_reducible refine e_call ?_ | with_reducible refine e_blt ?_ | with_reducible refine e_bl ?_ | with_reducible refine e_and ?_ | with_reducible refine e_or ?_ | with_reducible refine e_not ?_ | with_reducible refine e_ite ?_
  | with_reducible refine es_cons ?_ | with_reducible refine es_nil ?_ | with_reducible refine e_tup ?_ | with_reducible refine e_lst ?_ | with_reducible refine e_meth ?_ | with_reducible refine e_comp ?_ | with_reducible refine e_sl ?_ | with_reducible refine e_neg ?_ | with_reducible refine e_isi ?_ | with_reducible refine e_lrg ?_ | with_reducible refine e_trg ?_ | with_reducible refine e_non ?_ | with_reducible refine e_str ?_ | with_reducible refine e_fnv ?_ | with_reducible refine e_orl ?_ | with_reducible refine e_dnew ?_ | with_reducible refine e_dget ?_ | with_reducible refine e_dget2 ?_
  | with_reducible refine o_no ?_ | with_reducible refine o_so ?_ | with_reducible refine i_rng ?_ | with_reducible refine i_seq ?_ | with_reducible refine i_enum ?_ | with_reducible refine i_rngD ?_ | with_reducible refine if_nil ?_ | with_reducible refine if_cons ?_ | with_reducible refine rg_1 ?_ | with_reducible refine rg_2 ?_
  | with_reducible refine b_add ?_ | with_reducible refine b_sub ?_ | ((with_reducible refine' b_mul ?h1 ?_); (case h1 => first | assumption | mul_fits)) | ((with_reducible refine' b_fdiv ?h1 ?h2 ?_); (case h1 => walk_at "kn"); (case h2 => first | assumption | decide)) | ((with_reducible refine' b_mod ?h1 ?_); (case h1 => walk_at "kn")) | ((with_reducible refine' b_pow ?h1 ?_); (case h1 => first | assumption | exact ⟨by decide, by decide, by decide⟩)) | ((with_reducible refine' b_shr ?h1 ?_); (case h1 => walk_at "kn")) | ((with_reducible refine' b_shl ?h1 ?_); (case h1 => assumption)) | with_reducible refine b_and ?_ | with_reducible refine b_or ?_ | with_reducible refine b_xor ?_
  | with_reducible refine c_lt ?_ | with_reducible refine c_le ?_ | with_reducible refine c_gt ?_ | with_reducible refine c_ge ?_ | with_reducible refine c_eqi ?_ | with_reducible refine c_nei ?_ | with_reducible refine c_eqb ?_ | with_reducible refine c_neb ?_ | with_reducible refine c_eqs ?_ | with_reducible refine c_nes ?_
  | with_reducible refine t_bl ?_ | with_reducible refine t_int ?_ | with_reducible refine t_tup ?_ | with_reducible refine t_non ?_
  | ((with_reducible refine' x_ref ?h1 ?h2 ?_); (case h1 => walk_at "look"); (case h2 => walk_at "at")) | ((with_reducible refine' x_tup ?h1 ?_); (case h1 => walk_at "at")) | ((with_reducible refine' x_klst ?h1 ?_); (case h1 => walk_at "at"))
  | ((with_reducible refine' set_ref ?h1 ?h2 ?_); (case h1 => walk_at "look"); (case h2 => walk_at "at"))
  | ((with_reducible refine' f_lenr ?h1 ?_); (case h1 => walk_at "look")) | with_reducible refine f_lent ?_ | with_reducible refine f_lenk ?_ | with_reducible refine f_int ?_ | ((with_reducible refine' f_listr ?h1 ?_); (case h1 => walk_at "look")) | with_reducible refine f_listt ?_ | with_reducible refine f_listk ?_ | ((with_reducible refine' f_tupr ?h1 ?_); (case h1 => walk_at "look")) | with_reducible refine f_tupt ?_ | with_reducible refine f_max ?_ | with_reducible refine f_min ?_
  | with_reducible refine sl_klst ?_ | ((with_reducible refine' sl_ref ?h1 ?_); (case h1 => walk_at "look")) | with_reducible refine sl_tup ?_
  | ((with_reducible refine' m_app ?h1 ?h2 ?_); (case h1 => walk_at "look"); (case h2 => walk_at "sz")) | ((with_reducible refine' m_ext ?h1 ?h2 ?h3 ?_); (case h1 => walk_at "look"); (case h2 => walk_at "look"); (case h3 => walk_at "sz")) | ((with_reducible refine' m_extT ?h1 ?h3 ?_); (case h1 => walk_at "look"); (case h3 => walk_at "sz"))
  | with_reducible refine k_t ?_ | with_reducible refine k_f ?_ | with_reducible refine k_nt ?_ | with_reducible refine k_nf ?_
  | ((with_reducible refine' d_t ?h1 ?_); (case h1 => first | assumption | omega)) | ((with_reducible refine' d_f ?h1 ?_); (case h1 => first | assumption | omega)) | ((with_reducible refine' d_nt ?h1 ?_); (case h1 => first | assumption | omega)) | ((with_reducible refine' d_nf ?h1 ?_); (case h1 => first | assumption | omega))
  | ((with_reducible refine' And.intro (r_lst ?h1 ?h2) ?_); (case h1 => decide); (case h2 => walk_at "look")) | (with_reducible refine And.intro r_int ?_)
  | ((with_reducible refine And.intro ?h1 ?_); (case h1 => (with_reducible show List.length _ ≤ sizeLine); walk_at "sz"))
  | dsimp only
  | dsimp only [isTy_int, isTy_bl, isTy_str, isTy_non, isTy_tup])
local macro_rules | `(tactic| walk_at "mp") => `(tactic| repeat walk_at "mp1")
local macro_rules | `(tactic| walk_at "tx1") => `(tactic| first
  | walk_at "mp1"
  | with_reducible refine e_cst ?_ | ((with_reducible refine' f_lens ?h1 ?_); (case h1 => walk_at "sz"))
  | ((with_reducible refine' x_str ?h1 ?h2 ?_); (case h1 => walk_at "sz"); (case h2 => walk_at "at"))
  | ((with_reducible refine' sl_str' ?h1 ?_); (case h1 => walk_at "sz")))
local macro_rules | `(tactic| walk_at "tx") => `(tactic| repeat walk_at "tx1")

section
variable {c : CallT} {ss : MSs} {rt : KD} {nx : MP.Env → Sto → Prop} {ex : Ex → MP.Env → Sto → Prop} {i j : Nat} {f : Nat → Nat → Nat → Option Nat} {P : List Nat → MP.Env → Sto → Prop} {l0 : Ps}
theorem for_foldS (hs : ∀ (x : Nat × Nat) (xs : List Nat) (y : Nat) (σ : MP.Env) (S : Sto) (K : MP.Env → Sto → Prop), x ∈ l0 → P xs σ S → f x.1 (xs.getD x.1 0) x.2 = some y → (∀ σ' S', P (xs.set x.1 y) σ' S' → K σ' S') → wpSs c ss ⟨K, rt, nx, K, ex⟩ ((σ.set i (some (.int (x.1 : Nat)))).set j (some (.int (x.2 : Nat)))) S) :
    ∀ (l : Ps) (xs zs : List Nat) (σ : MP.Env) (S : Sto), (∀ x ∈ l, x ∈ l0) → P xs σ S → fold f xs l = some zs → (∀ σ' S', P zs σ' S' → nx σ' S') → wpFor [] (forB c (.tp [.nm i, .nm j]) ss rt nx ex) nx (l.map pD) σ S
  | [], xs, zs, σ, S, _, hP, e, q => by cases e; exact ⟨gd_nil, q σ S hP⟩
  | x :: r, xs, zs, σ, S, hl, hP, e, q => by
    refine ⟨gd_nil, ?_⟩
    show wpSs c ss ⟨wpFor [] (forB c (.tp [.nm i, .nm j]) ss rt nx ex) nx (r.map pD), rt, nx, wpFor [] (forB c (.tp [.nm i, .nm j]) ss rt nx ex) nx (r.map pD), ex⟩ ((σ.set i (some (.int (x.1 : Nat)))).set j (some (.int (x.2 : Nat)))) S
    obtain ⟨v, p⟩ := x
    simp only [fold] at e
    split at e
    · rename_i y hy
      exact hs (v, p) xs y σ S _ (hl _ List.mem_cons_self) hP hy fun σ' S' hP' => for_foldS hs r _ zs σ' S' (fun z hz => hl z (List.mem_cons_of_mem _ hz)) hP' e q
    · cases e
end
theorem taken_parts {nv nc : Nat} {r : Row} {s : St} (R : RowOk nv nc r) (St : StOk nv nc s) (h : canF r s = true) : ∃ c1 c2 p2, fold gK s.2 r.k = some c1 ∧ fold fK c1 r.p = some c2 ∧ fold gS s.1 r.s = some p2 ∧ takenF r s = some (p2, c2) := by
  have e := taken_can R St
  rw [h] at e
  obtain ⟨s', hs'⟩ := Option.isSome_iff_exists.mp e
  have h0 := hs'
  unfold takenF at hs'
  split at hs'
  · obtain ⟨c1, h1, hs'⟩ := Option.bind_eq_some_iff.mp hs'
    obtain ⟨c2, h2, hs'⟩ := Option.bind_eq_some_iff.mp hs'
    obtain ⟨p2, h3, hs'⟩ := Option.map_eq_some_iff.mp hs'
    cases hs'
    exact ⟨c1, c2, p2, h1, h2, h3, h0⟩
  · cases hs'
section
variable {k : Nat} {S : Sto} {Q : KD} {E : Ex → Sto → Prop}
theorem can_ok (hk : 1 ≤ k) {nv nc : Nat} {r : Row} {nm : D} {s : St} (R : RowOk nv nc r) (St : StOk nv nc s) (q : Q (.bl (canF r s)) S) : C k fcan_take [rD nm r, stD s] S Q E := by
  obtain ⟨pl, ct⟩ := s
  show C k fcan_take [rD nm r, cD pl ct] S Q E
  obtain ⟨k, rfl⟩ := up hk
  refine ccan_take ?_
  unfold bcan_take
  have lp : pl.length = nv := St.lp
  have lc : ct.length = nc := St.lc
  unfold canF at q
  dsimp only at q
  refine s_cons (s_for (i_seq (e_ix (e_var rfl (e_int (x_r1 ?_))))))
  dsimp only [psD]
  refine for_inv (hC k) (fun i σ S' => S' = S ∧ (∀ x ∈ r.t.take i, x.2.testBit (pl.getD x.1 0) = true) ∧ ∃ s2 s3 s4 s5, σ = [some (rD nm r), some (cD pl ct), s2, s3, s4, s5]) ⟨rfl, (fun _ z => nomatch z), _, _, _, _, rfl⟩ (fun _ _ _ _ _ => gd_nil) (fun i x σ S1 hx h => ?_) fun σ S1 h => ?_
  · obtain ⟨rfl, hb, s2, s3, s4, s5, rfl⟩ := h
    rw [List.getElem?_map] at hx
    obtain ⟨⟨v, m⟩, hx', rfl⟩ := Option.map_eq_some_iff.mp hx
    have hm := List.mem_of_getElem? hx'
    have hv := R.tb _ hm
    have hv1 : v < pl.length := by simp only [] at hv; omega
    dsimp only [pD, asg, asgs, List.set]
    refine s_cons (s_iff (e_bit0 (m := m) (p := pl.getD v 0) (fun Q' q' => e_var rfl q') (fun Q' q' => e_ix (e_ix (e_var rfl (e_int (x_c0 (e_var rfl (x_nl hv1 q')))))))  (t_bl (nb_2 (fun hb => ?_) fun hb2 => ?_))))
    · refine s_cons (s_ret (e_bl ?_))
      have e : r.t.all (fun x => x.2.testBit (pl.getD x.1 0)) = false := by
        rw [← Bool.not_eq_true]
        intro z
        have := List.all_eq_true.mp z _ hm
        rw [show (v, m).2.testBit (pl.getD (v, m).1 0) = false from hb] at this
        cases this
      rw [e] at q
      exact q
    · refine s_nil (s_nil ⟨rfl, fun x hx2 => ?_, _, _, _, _, rfl⟩)
      rw [List.take_add_one, hx'] at hx2
      rcases List.mem_append.mp hx2 with z | z
      · exact hb x z
      · simp at z
        subst z
        exact hb2
  obtain ⟨rfl, hb, s2, s3, s4, s5, rfl⟩ := h
  rw [List.length_map, List.take_length] at hb
  rw [List.all_eq_true.mpr hb, Bool.true_and] at q
  refine s_cons (s_for (i_seq (e_ix (e_var rfl (e_int (x_r3 ?_))))))
  dsimp only [psD]
  refine for_inv (hC k) (fun i σ S' => S' = S1 ∧ (∀ x ∈ r.k.take i, x.2 ≤ ct.getD x.1 0) ∧ ∃ s2 s3 s4 s5, σ = [some (rD nm r), some (cD pl ct), s2, s3, s4, s5]) ⟨rfl, (fun _ z => nomatch z), _, _, _, _, rfl⟩ (fun _ _ _ _ _ => gd_nil) (fun i x σ S1 hx h => ?_) fun σ S1 h => ?_
  · obtain ⟨rfl, hb, s2, s3, s4, s5, rfl⟩ := h
    rw [List.getElem?_map] at hx
    obtain ⟨⟨v, m⟩, hx', rfl⟩ := Option.map_eq_some_iff.mp hx
    have hm := List.mem_of_getElem? hx'
    have hv := R.kb _ hm
    have hv1 : v < ct.length := by simp only [] at hv; omega
    dsimp only [pD, asg, asgs, List.set]
    refine s_cons (s_iff (e_cmp (e_ix (e_ix (e_var rfl (e_int (x_c1 (e_var rfl (x_nl hv1 (e_var rfl (c_lt (t_bl (d_2 (fun hb => ?_) fun hb2 => ?_)))))))))))))
    · refine s_cons (s_ret (e_bl ?_))
      have e : r.k.all (fun x => decide (x.2 ≤ ct.getD x.1 0)) = false := by
        rw [← Bool.not_eq_true]
        intro z
        have := of_decide_eq_true (List.all_eq_true.mp z _ hm)
        dsimp only at this
        omega
      rw [e] at q
      exact q
    · refine s_nil (s_nil ⟨rfl, fun x hx2 => ?_, _, _, _, _, rfl⟩)
      rw [List.take_add_one, hx'] at hx2
      rcases List.mem_append.mp hx2 with z | z
      · exact hb x z
      · simp at z
        subst z
        dsimp only
        omega
  obtain ⟨rfl, hb, s2, s3, s4, s5, rfl⟩ := h
  rw [List.length_map, List.take_length] at hb
  rw [List.all_eq_true.mpr fun x hx => decide_eq_true (hb x hx)] at q
  exact s_cons (s_ret (e_bl q))
theorem taken_is (hk : 2 ≤ k) {nv nc : Nat} {r : Row} {nm : D} {s : St} (R : RowOk nv nc r) (St : StOk nv nc s) (q : RetV S (oD (takenF r s)) Q) : C k ftaken [rD nm r, stD s] S Q E := by
  obtain ⟨k, rfl⟩ := up (n := 1) (by omega : 1 ≤ k)
  have hk : 1 ≤ k := by omega
  refine ctaken ?_
  unfold btaken
  refine s_cons (s_iff (e_not (e_call (es_cons (e_var rfl (es_cons (e_var rfl (es_nil (can_ok hk R St (t_bl (t_bl (nb_2 (fun hc => ?_) fun hc => ?_))))))))))))
  · have e := taken_can R St
    rw [hc] at e
    rw [Option.isSome_eq_false_iff, Option.isNone_iff_eq_none] at e
    rw [e] at q
    exact s_cons (s_ret (e_non (q S Ch.refl)))
  obtain ⟨c1, c2, p2, h1, h2, h3, h4⟩ := taken_parts R St hc
  rw [h4] at q
  obtain ⟨pl, ct⟩ := s
  have lp : pl.length = nv := St.lp
  have lc : ct.length = nc := St.lc
  have esd : stD (pl, ct) = cD pl ct := rfl
  rw [esd]
  dsimp only at h1 h3
  clear h4 hc esd
  refine s_nil (s_cons (s_nm (e_blt (es_cons (e_ix (e_var rfl (e_int (x_c0 (es_nil (f_listt ?_))))))))))
  dsimp only [List.set]
  refine s_cons (s_for (i_seq (e_ix (e_var rfl (e_int (x_r2 ?_))))))
  dsimp only [psD]
  refine for_foldS (f := gS) (l0 := r.s) (P := At S S.length pl.length fun σ => ∃ s3 s4 s5 s6 s7, σ = [some (rD nm r), some (cD pl ct), some (.ref S.length), s3, s4, s5, s6, s7]) (fun x xs y σ S2 K hx h hy hK => ?_) r.s pl p2 _ _ (fun _ z => z) ⟨Ch.refl.app, g_last, rfl, _, _, _, _, _, rfl⟩ h3 fun σ S3 h => ?_
  · obtain ⟨ch, g, hl, s3, s4, s5, s6, s7, rfl⟩ := h
    obtain ⟨v, m⟩ := x
    have hv := R.sb _ hx
    cases hy
    dsimp only [List.set] at hv ⊢
    have hv1 : v < xs.length := by omega
    exact s_cons (s_ix (e_var rfl (e_var rfl (e_var rfl (set_rl g hv1 (s_nil (hK _ _ ⟨ch.setn (Nat.le_refl _), g_set g, by rw [List.length_set]; exact hl, _, _, _, _, _, rfl⟩)))))))
  obtain ⟨ch, g, hl, s3, s4, s5, s6, s7, rfl⟩ := h
  have lt := g_lt g
  refine s_cons (s_nm (e_blt (es_cons (e_ix (e_var rfl (e_int (x_c1 (es_nil (f_listt ?_)))))))))
  dsimp only [List.set]
  refine s_cons (s_for (i_seq (e_ix (e_var rfl (e_int (x_r3 ?_))))))
  dsimp only [psD]
  refine for_foldS (f := gK) (l0 := r.k) (P := fun xs σ S' => S'[S.length]? = some (.lst (nl p2)) ∧ At S S3.length ct.length (fun σ => ∃ s3 s4 s6 s7, σ = [some (rD nm r), some (cD pl ct), some (.ref S.length), s3, s4, some (.ref S3.length), s6, s7]) xs σ S') (fun x xs y σ S2 K hx h hy hK => ?_) r.k ct c1 _ _ (fun _ z => z) ⟨g_app g, ch.app, g_last, rfl, _, _, _, _, rfl⟩ h1 fun σ S4 h => ?_
  · obtain ⟨gm, ch, g, hl, s3, s4, s6, s7, rfl⟩ := h
    obtain ⟨v, m⟩ := x
    have hv := R.kb _ hx
    dsimp only [List.set] at hv hy ⊢
    have hv1 : v < xs.length := by omega
    unfold gK at hy
    split at hy
    · cases hy
    cases hy
    refine s_cons (s_ix (e_bin (e_ix (e_var rfl (e_var rfl (x_rl g hv1 (e_var rfl (b_sub ?_))))))))
    refine e_var rfl (e_var rfl ?_)
    rw [show ((xs.getD v 0 : Nat) : Int) - (m : Nat) = ((xs.getD v 0 - m : Nat) : Int) by omega]
    exact set_rl g hv1 (s_nil (hK _ _ ⟨g_setn (by omega) gm, ch.setn (by omega), g_set g, by rw [List.length_set]; exact hl, _, _, _, _, rfl⟩))
  obtain ⟨gm, ch, g, hl, s3, s4, s6, s7, rfl⟩ := h
  refine s_cons (s_for (i_seq (e_ix (e_var rfl (e_int (x_r4 ?_))))))
  dsimp only [psD]
  refine for_foldS (f := fK) (l0 := r.p) (P := fun xs σ S' => S'[S.length]? = some (.lst (nl p2)) ∧ At S S3.length ct.length (fun σ => ∃ s3 s4 s6 s7, σ = [some (rD nm r), some (cD pl ct), some (.ref S.length), s3, s4, some (.ref S3.length), s6, s7]) xs σ S') (fun x xs y σ S2 K hx h hy hK => ?_) r.p c1 c2 _ _ (fun _ z => z) ⟨gm, ch, g, hl, _, _, _, _, rfl⟩ h2 fun σ S5 h => ?_
  · obtain ⟨gm, ch, g, hl, s3, s4, s6, s7, rfl⟩ := h
    obtain ⟨v, m⟩ := x
    have hv := R.pb _ hx
    cases hy
    dsimp only [List.set] at hv ⊢
    have hv1 : v < xs.length := by omega
    refine s_cons (s_ix (e_bin (e_ix (e_var rfl (e_var rfl (x_rl g hv1 (e_var rfl (b_add ?_))))))))
    refine e_var rfl (e_var rfl ?_)
    rw [show ((xs.getD v 0 : Nat) : Int) + (m : Nat) = ((xs.getD v 0 + m : Nat) : Int) by omega]
    exact set_rl g hv1 (s_nil (hK _ _ ⟨g_setn (by omega) gm, ch.setn (by omega), g_set g, by rw [List.length_set]; exact hl, _, _, _, _, rfl⟩))
  obtain ⟨gm, ch, g, hl, s3, s4, s6, s7, rfl⟩ := h
  exact s_cons (s_ret (e_tup (es_cons (e_blt (es_cons (e_var rfl (es_nil (f_tupr gm (es_cons (e_blt (es_cons (e_var rfl (es_nil (f_tupr g (es_nil ⟨two_sz, q S5 ch⟩)))))))))))))))
end
/-! ### nets -/
structure Net where
  vs : D
  cs : D
  rows : List (D × Row)
  start : List Nat
  counts : List Nat
  added : List Nat
def Net.rD (N : Net) : List D := N.rows.map fun x => K24.rD x.1 x.2
def Net.fs (N : Net) : List (Str × D) := [("variables", N.vs), ("counters", N.cs), ("rows", .tup N.rD), ("start", tN N.start), ("counts", tN N.counts), ("added", tN N.added)]
theorem Net.f_rows (N : Net) : N.fs.lookup ("rows" : Str) = some (.tup N.rD) := rfl
theorem Net.f_start (N : Net) : N.fs.lookup ("start" : Str) = some (tN N.start) := rfl
theorem Net.f_counts (N : Net) : N.fs.lookup ("counts" : Str) = some (tN N.counts) := rfl
theorem Net.f_added (N : Net) : N.fs.lookup ("added" : Str) = some (tN N.added) := rfl
structure NetOk (nv nc : Nat) (N : Net) : Prop where
  ls : N.start.length = nv
  lc : N.counts.length = nc
  ra : ∀ a ∈ N.added, a < nc
  rk : ∀ x ∈ N.rows, RowOk nv nc x.2
  lr : N.rows.length ≤ 1000
  la : N.added.length ≤ 1000
def addF (xs : List Nat) (l : Ps) : List Nat := (fold fK xs l).getD xs
theorem addF_is (xs : List Nat) (l : Ps) : fold fK xs l = some (addF xs l) := by
  obtain ⟨ys, h⟩ := fold_tot (f := fK) (fun _ _ _ => rfl) l xs
  unfold addF
  rw [h]
  rfl
def Net.first (N : Net) (ns : List Nat) : St := (N.start, addF N.counts (N.added.zip ns))
theorem first_st {nv nc : Nat} {N : Net} (O : NetOk nv nc N) (ns : List Nat) : StOk nv nc (N.first ns) := ⟨O.ls, (fold_len (addF_is _ _)).trans O.lc⟩
theorem zip_pD : ∀ a b : List Nat, zipD (nl a) (nl b) = (a.zip b).map pD
  | [], _ => rfl
  | _ :: _, [] => rfl
  | x :: a, y :: b => by
    show _ :: zipD (nl a) (nl b) = _
    rw [zip_pD a b]
    rfl
theorem fold_app {f : Nat → Nat → Nat → Option Nat} : ∀ {l m : Ps} {xs : List Nat}, fold f xs (l ++ m) = (fold f xs l).bind fun y => fold f y m
  | [], m, xs => rfl
  | (v, p) :: r, m, xs => by
    rw [List.cons_append]
    simp only [fold]
    split
    · exact fold_app
    · rfl
section
variable {k : Nat} {S : Sto} {Q : KD} {E : Ex → Sto → Prop}
theorem ex_no : (progOf es)[exLev]? = none := by decide +kernel
theorem fstate_ok (hk : 4 ≤ k) {nv nc n : Nat} {N : Net} {ns : List Nat} (g : S[n]? = some (.ins 0 N.fs)) (O : NetOk nv nc N) (q1 : ns.length = N.added.length → RetV S (stD (N.first ns)) Q) (q2 : ns.length ≠ N.added.length → E ⟨2, .str "numbers"⟩ S) : C k ffirst_state [.ref n, tN ns] S Q E := by
  obtain ⟨k, rfl⟩ := up (n := 3) (by omega : 3 ≤ k)
  refine cfirst_state (k := k + 2) ?_
  unfold bfirst_state
  refine s_cons (s_iff (e_cmp (e_blt (es_cons (e_var rfl (es_nil (f_lent (e_blt (es_cons (e_fld (e_var rfl (fld_ref g N.f_added (es_nil (f_lent (c_nei (t_bl (d_n2 (fun h => ?_) fun h => ?_)))))))))))))))))
  · rw [nl_len, nl_len] at h
    exact s_cons (s_rais ex_no (e_str (q2 (by omega))))
  rw [nl_len, nl_len] at h
  replace q1 := q1 (by omega)
  refine s_nil (s_cons (s_nm (e_blt (es_cons (e_fld (e_var rfl (fld_ref g N.f_counts (es_nil (f_listt ?_)))))))))
  dsimp only [List.set]
  refine s_cons (s_for (i_zip (e_fld (e_var rfl (fld_ref (g_app g) N.f_added (e_var rfl ?_))))))
  dsimp only [tN]
  rw [zip_pD]
  have ln := g_lt g
  refine for_foldS (f := fK) (l0 := N.added.zip ns) (P := At S S.length nc fun σ => ∃ s3 s4, σ = [some (.ref n), some (.tup (nl ns)), some (.ref S.length), s3, s4]) (fun x xs y σ S2 K hx h hy hK => ?_) _ N.counts _ _ _ (fun _ z => z) ⟨Ch.refl.app, g_last, O.lc, _, _, rfl⟩ (addF_is _ _) fun σ S3 h => ?_
  · obtain ⟨ch, g, hl, s3, s4, rfl⟩ := h
    obtain ⟨v, m⟩ := x
    have hv := O.ra _ (List.of_mem_zip hx).1
    cases hy
    dsimp only [List.set] at hv ⊢
    have hv1 : v < xs.length := by omega
    refine s_cons (s_ix (e_bin (e_ix (e_var rfl (e_var rfl (x_rl g hv1 (e_var rfl (b_add ?_))))))))
    refine e_var rfl (e_var rfl ?_)
    rw [show ((xs.getD v 0 : Nat) : Int) + (m : Nat) = ((xs.getD v 0 + m : Nat) : Int) by omega]
    exact set_rl g hv1 (s_nil (hK _ _ ⟨ch.setn (by omega), g_set g, by rw [List.length_set]; exact hl, _, _, rfl⟩))
  obtain ⟨ch, g3, hl, s3, s4, rfl⟩ := h
  exact s_cons (s_ret (e_tup (es_cons (e_blt (es_cons (e_fld (e_var rfl (fld_ref (ch.get (fun z => nomatch z) g) N.f_start (es_nil (f_tupt (es_cons (e_blt (es_cons (e_var rfl (es_nil (f_tupr g3 (es_nil ⟨two_sz, q1 S3 ch⟩)))))))))))))))))
theorem lfirst_ok (hk : 1 ≤ k) {nv nc n : Nat} {N : Net} {ns : List Nat} (g : S[n]? = some (.ins 0 N.fs)) (O : NetOk nv nc N) (hl : ns.length = N.added.length) (q : RetV S (stD (N.first ns)) Q) : C k f_law_first [.ref n, tN ns] S Q E := by
  obtain ⟨k, rfl⟩ := up hk
  refine c_law_first ?_
  unfold b_law_first
  have la := O.la
  have ln := g_lt g
  refine s_cons (s_nm (e_blt (es_cons (e_fld (e_var rfl (fld_ref g N.f_counts (es_nil (f_listt ?_))))))))
  dsimp only [List.set]
  refine s_cons (s_for (i_rng (es_cons (e_blt (es_cons (e_fld (e_var rfl (fld_ref (g_app g) N.f_added (es_nil (f_lent (es_nil (rg_1 ⟨?_, ?_⟩))))))))))))
  · rw [nl_len]
    exact rg_ok (by omega)
  rw [nl_len]
  refine for_rg (hC k) (fun i σ S' => ∃ xs s3, fold fK N.counts ((N.added.zip ns).take i) = some xs ∧ Ch [] S S' ∧ S'[S.length]? = some (.lst (nl xs)) ∧ σ = [some (.ref n), some (tN ns), some (.ref S.length), s3]) ⟨_, _, rfl, Ch.refl.app, g_last, rfl⟩ (fun i σ S2 hi h => ?_) fun σ S2 h => ?_
  · obtain ⟨xs, s3, e, ch, g2, rfl⟩ := h
    have hx : xs.length = nc := (fold_len e).trans O.lc
    have hv : N.added.getD i 0 < xs.length := by
      rw [hx, List.getD_eq_getElem?_getD, List.getElem?_eq_getElem hi]
      exact O.ra _ (List.getElem_mem hi)
    have hi2 : i < ns.length := by omega
    have gn := ch.get (fun z => nomatch z) g
    refine s_cons (s_ix (e_bin (e_ix (e_var rfl (e_ix (e_fld (e_var rfl (fld_ref gn N.f_added (e_var rfl (x_nl hi (x_rl g2 hv (e_ix (e_var rfl (e_var rfl (x_nl hi2 (b_add ?_))))))))))))))))
    refine e_var rfl (e_ix (e_fld (e_var rfl (fld_ref gn N.f_added (e_var rfl (x_nl hi ?_))))))
    rw [show ((xs.getD (N.added.getD i 0) 0 : Nat) : Int) + (ns.getD i 0 : Nat) = ((xs.getD (N.added.getD i 0) 0 + ns.getD i 0 : Nat) : Int) by omega]
    refine set_rl g2 hv (s_nil ⟨_, _, ?_, ch.setn (Nat.le_refl _), g_set g2, rfl⟩)
    have hz : (N.added.zip ns)[i]? = some (N.added.getD i 0, ns.getD i 0) := by
      rw [List.getElem?_zip_eq_some]
      constructor
      · show _ = some (N.added.getD i 0)
        rw [List.getD_eq_getElem?_getD, List.getElem?_eq_getElem hi]; rfl
      · show _ = some (ns.getD i 0)
        rw [List.getD_eq_getElem?_getD, List.getElem?_eq_getElem hi2]; rfl
    rw [List.take_succ, hz, fold_app, e]
    rfl
  obtain ⟨xs, s3, e, ch, g3, rfl⟩ := h
  rw [List.take_of_length_le (by rw [List.length_zip]; omega), addF_is] at e
  cases e
  exact s_cons (s_ret (e_tup (es_cons (e_blt (es_cons (e_fld (e_var rfl (fld_ref (ch.get (fun z => nomatch z) g) N.f_start (es_nil (f_tupt (es_cons (e_blt (es_cons (e_var rfl (es_nil (f_tupr g3 (es_nil ⟨two_sz, q S2 ch⟩)))))))))))))))))
end
end K24
/-! K24D: law k24, both walks. -/
namespace K24
open PySem PySem.Spec PyProof.Rows L2 MP
local macro_rules | `(tactic| walk_at "look") => `(tactic| first | assumption | exact g_last | (with_reducible apply g_set; walk_at "look") | ((with_reducible refine g_setn ?h1 ?h2); (case h1 => first | assumption | omega | (apply Ne.symm; assumption)); (case h2 => walk_at "look")) | ((with_reducible refine g_app ?_); walk_at "look") | ((with_reducible refine' Fr.get ?h1 ?h2 ?h3); (case h1 => assumption); (case h2 => first | assumption | omega | (apply Ne.symm; assumption)); (case h3 => walk_at "look")) | ((with_reducible refine' Ch.get ?h1 ?h2 ?h3); (case h1 => assumption); (case h2 => first | assumption | (simp; done) | (simp only [List.mem_cons, List.not_mem_nil, or_false, not_or]; omega)); (case h3 => walk_at "look")))
local macro_rules | `(tactic| walk_at "kn") => `(tactic| first | assumption | omega | (simp; done) | decide)
local macro_rules | `(tactic| walk_at "sz") => `(tactic| first | assumption | (rw [sizeLine_eq]; first | omega | (simp; done) | (simp; omega)))
local macro_rules | `(tactic| walk_at "at") => `(tactic| first | exact rfl | assumption)
local macro_rules | `(tactic| walk_at "mp1") => `(tactic| first
  | with_reducible refine s_cons ?_ | with_reducible refine s_nil ?_ | with_reducible refine s_nm ?_ | with_reducible refine s_ix ?_ | with_reducible refine s_asg ?_ | with_reducible refine s_ex ?_ | with_reducible refine s_iff ?_ | with_reducible refine s_ret ?_ | with_reducible refine s_for ?_
  | ((with_reducible refine' e_var ?h1 ?_); (case h1 => exact rfl)) | with_reducible refine e_int ?_ | with_reducible refine e_bin ?_ | with_reducible refine e_cmp ?_ | with_reducible refine e_ix ?_ | with_reducible refine e_call ?_ | with_reducible refine e_blt ?_ | with_reducible refine e_bl ?_ | with_reducible refine e_and ?_ | with_reducible refine e_or ?_ | with_reducible refine e_not ?_ | with_reducible refine e_ite ?_
  | with_reducible refine es_cons ?_ | with_reducible refine es_nil ?_ | with_reducible refine e_tup ?_ | with_reducible refine e_lst ?_ | with_reducible refine e_meth ?_ | with_reducible refine e_comp ?_ | with_reducible refine e_sl ?_ | with_reducible refine e_neg ?_ | with_reducible refine e_isi ?_ | with_reducible refine e_lrg ?_ | with_reducible refine e_trg ?_ | with_reducible refine e_non ?_ | with_reducible refine e_str ?_ | with_reducible refine e_fnv ?_ | with_reducible refine e_orl ?_ | with_reducible refine e_dnew ?_ | with_reducible refine e_dget ?_ | with_reducible refine e_dget2 ?_
  | with_reducible refine o_no ?_ | with_reducible refine o_so ?_ | with_reducible refine i_rng ?_ | with_reducible refine i_seq ?_ | with_reducible refine i_enum ?_ | with_reducible refine i_rngD ?_ | with_reducible refine if_nil ?_ | with_reducible refine if_cons ?_ | with_reducible refine rg_1 ?_ | with_reducible refine rg_2 ?_
  | with_reducible refine b_add ?_ | with_reducible refine b_sub ?_ | ((with_reducible refine' b_mul ?h1 ?_); (case h1 => first | assumption | mul_fits)) | ((with_reducible refine' b_fdiv ?h1 ?h2 ?_); (case h1 => walk_at "kn"); (case h2 => first | assumption | decide)) | ((with_reducible refine' b_mod ?h1 ?_); (case h1 => walk_at "kn")) | ((with_reducible refine' b_pow ?h1 ?_); (case h1 => first | assumption | exact ⟨by decide, by decide, by decide⟩)) | ((with_reducible refine' b_shr ?h1 ?_); (case h1 => walk_at "kn")) | ((with_reducible refine' b_shl ?h1 ?_); (case h1 => assumption)) | with_reducible refine b_and ?_ | with_reducible refine b_or ?_ | with_reducible refine b_xor ?_
  | with_reducible refine c_lt ?_ | with_reducible refine c_le ?_ | with_reducible refine c_gt ?_ | with_reducible refine c_ge ?_ | with_reducible refine c_eqi ?_ | with_reducible refine c_nei ?_ | with_reducible refine c_eqb ?_ | with_reducible refine c_neb ?_ | with_reducible refine c_eqs ?_ | with_reducible refine c_nes ?_
  | with_reducible refine t_bl ?_ | with_reducible refine t_int ?_ | with_reducible refine t_tup ?_ | with_reducible refine t_non ?_
  | ((with_reducible refine' x_ref ?h1 ?h2 ?_); (case h1 => walk_at "look"); (case h2 => walk_at "at")) | ((with_reducible refine' x_tup ?h1 ?_); (case h1 => walk_at "at")) | ((with_reducible refine' x_klst ?h1 ?_); (case h1 => walk_at "at"))
  | ((with_reducible refine' set_ref ?h1 ?h2 ?_); (case h1 => walk_at "look"); (case h2 => walk_at "at"))
  | ((with_reducible refine' f_lenr ?h1 ?_); (case h1 => walk_at "look")) | with_reducible refine f_lent ?_ | with_reducible refine f_lenk ?_ | with_reducible refine f_int ?_ | ((with_reducible refine' f_listr ?h1 ?_); (case h1 => walk_at "look")) | with_reducible refine f_listt ?_ | with_reducible refine f_listk ?_ | ((with_reducible refine' f_tupr ?h1 ?_); (case h1 => walk_at "look")) | with_reducible refine f_tupt ?_ | with_reducible refine f_max ?_ | with_reducible refine f_min ?_
  | with_reducible refine sl_klst ?_ | ((with_reducible refine' sl_ref ?h1 ?_); (case h1 => walk_at "look")) | with_reducible refine sl_tup ?_
  | ((with_reducible refine' m_app ?h1 ?h2 ?_); (case h1 => walk_at "look"); (case h2 => walk_at "sz")) | ((with_reducible refine' m_ext ?h1 ?h2 ?h3 ?_); (case h1 => walk_at "look"); (case h2 => walk_at "look"); (case h3 => walk_at "sz")) | ((with_reducible refine' m_extT ?h1 ?h3 ?_); (case h1 => walk_at "look"); (case h3 => walk_at "sz"))
  | with_reducible refine k_t ?_ | with_reducible refine k_f ?_ | with_reducible refine k_nt ?_ | with_reducible refine k_nf ?_
  | ((with_reducible refine' d_t ?h1 ?_); (case h1 => first | assumption | omega)) | ((with_reducible refine' d_f ?h1 ?_); (case h1 => first | assumption | omega)) | ((with_reducible refine' d_nt ?h1 ?_); (case h1 => first | assumption | omega)) | ((with_reducible refine' d_nf ?h1 ?_); (case h1 => first | assumption | omega))
  | ((with_reducible refine' And.intro (r_lst ?h1 ?h2) ?_); (case h1 => decide); (case h2 => walk_at "look")) | (with_reducible refine And.intro r_int ?_)
  | ((with_reducible refine And.intro ?h1 ?_); (case h1 => (with_reducible show List.length _ ≤ sizeLine); walk_at "sz"))
  | dsimp only
  | dsimp only [isTy_int, isTy_bl, isTy_str, isTy_non, isTy_tup])
local macro_rules | `(tactic| walk_at "mp") => `(tactic| repeat walk_at "mp1")
local macro_rules | `(tactic| walk_at "tx1") => `(tactic| first
  | walk_at "mp1"
  | with_reducible refine e_cst ?_ | ((with_reducible refine' f_lens ?h1 ?_); (case h1 => walk_at "sz"))
  | ((with_reducible refine' x_str ?h1 ?h2 ?_); (case h1 => walk_at "sz"); (case h2 => walk_at "at"))
  | ((with_reducible refine' sl_str' ?h1 ?_); (case h1 => walk_at "sz")))
local macro_rules | `(tactic| walk_at "tx") => `(tactic| repeat walk_at "tx1")

theorem one_sz : (1 : Nat) ≤ sizeLine := by decide
def Net.rs (N : Net) : List Row := N.rows.map Prod.snd
def Net.run (N : Net) (F : Nat) (ns : List Nat) : List St := runU N.rs F [N.first ns] 0
theorem rs_get {N : Net} {i : Nat} {x : D} (h : N.rD[i]? = some x) : ∃ nm r, (nm, r) ∈ N.rows ∧ x = rD nm r ∧ N.rs[i]? = some r := by
  unfold Net.rD at h
  rw [List.getElem?_map] at h
  obtain ⟨⟨nm, r⟩, h1, rfl⟩ := Option.map_eq_some_iff.mp h
  refine ⟨nm, r, List.mem_of_getElem? h1, rfl, ?_⟩
  unfold Net.rs
  rw [List.getElem?_map, h1]
  rfl
theorem rs_all {N : Net} {L : List St} {s : St} : turnU (N.rs.take N.rD.length) L s = turnU N.rs L s := by
  have : N.rs.length ≤ N.rD.length := by unfold Net.rs Net.rD; simp
  rw [List.take_of_length_le this]
theorem st_at {L : List St} {i : Nat} {s : St} (h : L[i]? = some s) : atI (L.map stD) (i : Int) = some (stD s) := atI_nat (by rw [List.getElem?_map, h]; rfl)
theorem stD_ne {s : St} : stD s ≠ .non := by intro h; cases h
section
variable {k : Nat} {S : Sto} {Q : KD} {E : Ex → Sto → Prop}
set_option maxHeartbeats 2000000 in
theorem walk_ok (hk : 5 ≤ k) {nv nc n m F : Nat} {N : Net} {ns : List Nat} (g : S[n]? = some (.ins 0 N.fs)) (O : NetOk nv nc N) (hm : 1 ≤ m) (hM : m ≤ 5000) (hF : m < F)
    (q0 : ns.length ≠ N.added.length → ∀ S', Ch [] S S' → E ⟨2, .str "numbers"⟩ S') (q1 : ns.length = N.added.length → (N.run F ns).length ≤ m → RetV S (.tup ((N.run F ns).map stD)) Q) (q2 : ns.length = N.added.length → m < (N.run F ns).length → ∀ S', Ch [] S S' → E ⟨1, .str "states"⟩ S') :
    C k fwalk [.ref n, tN ns, .int (m : Nat)] S Q E := by
  obtain ⟨k, rfl⟩ := up (n := 3) (by omega : 3 ≤ k)
  have hk : 2 ≤ k := by omega
  refine cwalk (k := k + 2) ?_
  unfold bwalk
  have lr := O.lr
  refine s_cons (s_nm (e_call (es_cons (e_var rfl (es_cons (e_var rfl (es_nil (fstate_ok (by omega) g O (fun hl S1 ch1 => ?_) fun h => q0 h S Ch.refl))))))))
  replace q1 := q1 hl
  replace q2 := q2 hl
  have st0 := first_st O ns
  dsimp only [List.set]
  refine s_cons (s_nm (e_orr (e_ddisN (e_var rfl (e_bl ?_)))))
  rw [ndKey_st]
  dsimp only [List.set]
  refine s_cons (s_nm (e_lst (es_cons (e_var rfl (es_nil ⟨one_sz, ?_⟩)))))
  dsimp only [List.set]
  refine s_cons (s_nm (e_int ?_))
  dsimp only [List.set]
  have l2 : (S1 ++ [MP.O.nd false [(nkey (N.first ns), D.bl true)]]).length = S1.length + 1 := by simp
  have ch2 : Ch [] S ((S1 ++ [MP.O.nd false [(nkey (N.first ns), D.bl true)]]) ++ [MP.O.lst [stD (N.first ns)]]) := ch1.app.app
  have g1 : ((S1 ++ [MP.O.nd false [(nkey (N.first ns), D.bl true)]]) ++ [MP.O.lst [stD (N.first ns)]])[S1.length]? = some (.nd false [(nkey (N.first ns), D.bl true)]) := g_app g_last
  have g2 : ((S1 ++ [MP.O.nd false [(nkey (N.first ns), D.bl true)]]) ++ [MP.O.lst [stD (N.first ns)]])[S1.length + 1]? = some (.lst [stD (N.first ns)]) := by rw [← l2]; exact g_last
  rw [l2]
  have hd := ch1.le
  generalize ((S1 ++ [MP.O.nd false [(nkey (N.first ns), D.bl true)]]) ++ [MP.O.lst [stD (N.first ns)]]) = S2 at ch2 g1 g2 ⊢
  generalize hdd : S1.length = d at hd g1 g2 ⊢
  clear ch1 l2 hdd
  refine s_cons (s_whl (fun μ σ S' => ∃ (L : List St) (at_ : Nat) (kvs : List (NestedKey × D)) (s7 s8 : Option D), μ = m - at_ ∧ at_ ≤ L.length ∧ L.length ≤ m ∧ runU N.rs (F - at_) L at_ = N.run F ns ∧ (∀ x ∈ L, StOk nv nc x) ∧ kvs.map Prod.fst = L.map nkey ∧ Ch [] S S' ∧ S'[d]? = some (.nd false kvs) ∧ S'[d + 1]? = some (.lst (L.map stD)) ∧ σ = [some (.ref n), some (tN ns), some (.int (m : Nat)), some (stD (N.first ns)), some (.ref d), some (.ref (d + 1)), some (.int (at_ : Nat)), s7, s8]) m ⟨[N.first ns], 0, _, _, _, rfl, Nat.zero_le _, hm, rfl, fun x hx => by rw [List.mem_singleton.mp hx]; exact st0, rfl, ch2, g1, g2, rfl⟩ fun μ σ S3 h => ?_)
  obtain ⟨L, i, kvs, s7, s8, rfl, hi, hL, hR, hok, hkv, ch, gd, gl, rfl⟩ := h
  refine e_cmp (e_var rfl (e_blt (es_cons (e_var rfl (es_nil (f_lenr gl (c_lt (t_bl (d_2 (fun hlt => ?_) fun hlt => ?_)))))))))
  rotate_left
  · rw [List.length_map] at hlt
    rw [run_end (by omega)] at hR
    subst hR
    exact s_cons (s_ret (e_blt (es_cons (e_var rfl (es_nil (f_tupr gl (q1 hL S3 ch)))))))
  rw [List.length_map] at hlt
  obtain ⟨st, hst⟩ : ∃ st, L[i]? = some st := ⟨_, List.getElem?_eq_getElem (by omega)⟩
  have hR2 : runU N.rs (F - (i + 1)) (turnU N.rs L st) (i + 1) = N.run F ns := by
    have : F - i = (F - (i + 1)) + 1 := by omega
    rw [this, run_more hst] at hR
    exact hR
  have sok := hok st (List.mem_of_getElem? hst)
  have tpre : ∀ i', turnU (N.rs.take i') L st <+: N.run F ns := fun i' => turn_le.trans (by rw [← hR2]; exact run_pre _ _ _ _)
  refine s_cons (s_for (i_seq (e_fld (e_var rfl (fld_ref (ch.get (fun z => nomatch z) g) N.f_rows ?_)))))
  dsimp only
  refine for_inv (hC _) (fun i' σ S' => ∃ (kvs : List (NestedKey × D)) (s7 s8 : Option D), (turnU (N.rs.take i') L st).length ≤ m ∧ kvs.map Prod.fst = (turnU (N.rs.take i') L st).map nkey ∧ Ch [] S S' ∧ S'[d]? = some (.nd false kvs) ∧ S'[d + 1]? = some (.lst ((turnU (N.rs.take i') L st).map stD)) ∧ σ = [some (.ref n), some (tN ns), some (.int (m : Nat)), some (stD (N.first ns)), some (.ref d), some (.ref (d + 1)), some (.int (i : Nat)), s7, s8]) ⟨kvs, _, _, hL, hkv, ch, gd, gl, rfl⟩ (fun _ _ _ _ _ => gd_nil) (fun i' x σ S4 hx h => ?_) fun σ S4 h => ?_
  · clear hkv gd gl ch
    obtain ⟨kvs, s7, s8, hL2, hkv, ch, gd, gl, rfl⟩ := h
    obtain ⟨nm, r, hm2, rfl, hr⟩ := rs_get hx
    have R := O.rk _ hm2
    have tt := turn_take (L := L) (s := st) hr
    have pre2 := tpre (i' + 1)
    rw [tt] at pre2 ⊢
    generalize hLL : turnU (N.rs.take i') L st = L2 at hL2 hkv gl tt pre2 ⊢
    have hst2 : L2[i]? = some st := pre_get (by rw [← hLL]; exact turn_pre _ _ _) hst
    dsimp only [asg, List.set]
    refine s_cons (s_nm (e_call (es_cons (e_var rfl (es_cons (e_ix (e_var rfl (e_var rfl (x_ref gl (st_at hst2) (es_nil (taken_is (by omega) R sok fun S5 ch5 => ?_)))))))))))
    dsimp only [List.set]
    have gd5 := ch5.get (fun z => nomatch z) gd
    have gl5 := ch5.get (fun z => nomatch z) gl
    have chh := ch.trans ch5
    cases ho : takenF r st with
    | none =>
      refine s_cons (s_iff (e_and (e_cmp (e_var rfl (e_non (c_notn rfl (t_bl (k_f (t_bl (k_f (s_nil (s_nil ?_))))))))))))
      exact ⟨kvs, _, _, hL2, hkv, chh, gd5, gl5, rfl⟩
    | some s' =>
      rw [ho] at pre2
      refine s_cons (s_iff (e_and (e_cmp (e_var rfl (e_non (c_notn' stD_ne (t_bl (k_t (e_cmp (e_var rfl (e_var rfl (nd_nin gd5 (ndKey_st s') (t_bl ?_)))))))))))))
      rw [get_none hkv]
      refine d_n2 (fun hin => ?_) fun hin => ?_
      · have ea : addN L2 (some s') = L2 ++ [s'] := by unfold addN; exact if_neg hin
        rw [ea] at pre2 ⊢
        have ple := pre2.length_le
        rw [List.length_append] at ple
        refine s_cons (s_iff (e_cmp (e_blt (es_cons (e_var rfl (es_nil (f_lenr gl5 (e_var rfl (c_ge (t_bl (d_2 (fun hge => ?_) fun hge => ?_)))))))))))
        · rw [List.length_map] at hge
          exact s_cons (s_rais ex_no (e_str (q2 (by simp at ple; omega) _ chh)))
        rw [List.length_map] at hge
        have lk : kvs.length = L2.length := by
          have := congrArg List.length hkv
          rw [List.length_map, List.length_map] at this
          exact this
        refine s_nil (s_cons (s_ix (e_bl (e_var rfl (e_var rfl (nd_set gd5 (ndKey_st s') (by rw [lk, sizeLine_eq]; omega) ?_))))))
        rw [put_new hkv hin]
        have gl6 := g_setn (o' := MP.O.nd false (kvs ++ [(nkey s', D.bl true)])) (show d ≠ d + 1 by omega) gl5
        refine s_cons (s_ex (e_meth (e_var rfl ⟨r_lst ⟨by decide, by decide, by decide⟩ gl6, es_cons (e_var rfl (es_nil (m_app gl6 (by rw [List.length_map, sizeLine_eq]; omega) ?_)))⟩)))
        refine s_nil (s_nil ⟨kvs ++ [(nkey s', D.bl true)], _, _, by rw [List.length_append]; simp; omega, by rw [List.map_append, List.map_append, hkv]; rfl, (chh.setn hd).setn (by omega), g_setn (by omega) (g_set gd5), ?_, rfl⟩)
        rw [List.map_append]
        exact g_set gl6
      · have ea : addN L2 (some s') = L2 := by unfold addN; exact if_pos hin
        rw [ea]
        exact s_nil (s_nil ⟨kvs, _, _, hL2, hkv, chh, gd5, gl5, rfl⟩)
  · clear hkv gd gl ch
    obtain ⟨kvs, s7, s8, hL2, hkv, ch, gd, gl, rfl⟩ := h
    rw [rs_all] at hL2 hkv gl
    refine s_cons (s_nm (e_bin (e_var rfl (e_int (b_add ?_)))))
    dsimp only [List.set]
    refine s_nil ⟨m - (i + 1), by omega, _, i + 1, kvs, _, _, rfl, ?_, hL2, hR2, turn_ok sok hok, hkv, ch, gd, gl, rfl⟩
    have := (turn_pre N.rs L st).length_le
    omega
set_option maxHeartbeats 2000000 in
theorem lwalk_ok (hk : 2 ≤ k) {nv nc n m F : Nat} {N : Net} {ns : List Nat} (g : S[n]? = some (.ins 0 N.fs)) (O : NetOk nv nc N) (hm : 1 ≤ m) (hM : m ≤ 5000) (hF : m < F)
    (q1 : (N.run F ns).length ≤ m → ∀ (d : Nat) (kvs : List (NestedKey × D)) S', Ch [] S S' → S.length ≤ d → S'[d]? = some (.nd false kvs) → kvs.map Prod.fst = (N.run F ns).map nkey → Q (.ref d) S') (q2 : m < (N.run F ns).length → ∀ S', Ch [] S S' → Q .non S') :
    C k f_law_walk [.ref n, stD (N.first ns), .int (m : Nat)] S Q E := by
  obtain ⟨k, rfl⟩ := up (n := 1) (by omega : 1 ≤ k)
  have hk : 1 ≤ k := by omega
  refine c_law_walk ?_
  unfold b_law_walk
  have lr := O.lr
  have st0 := first_st O ns
  refine s_cons (s_nm (e_orr (e_ddisN (e_var rfl (e_int ?_)))))
  rw [ndKey_st]
  dsimp only [List.set]
  refine s_cons (s_nm (e_lst (es_cons (e_var rfl (es_nil ⟨one_sz, ?_⟩)))))
  dsimp only [List.set]
  refine s_cons (s_nm (e_int ?_))
  dsimp only [List.set]
  have l2 : (S ++ [MP.O.nd false [(nkey (N.first ns), D.int 0)]]).length = S.length + 1 := by simp
  have ch2 : Ch [] S ((S ++ [MP.O.nd false [(nkey (N.first ns), D.int 0)]]) ++ [MP.O.lst [stD (N.first ns)]]) := Ch.refl.app.app
  have g1 : ((S ++ [MP.O.nd false [(nkey (N.first ns), D.int 0)]]) ++ [MP.O.lst [stD (N.first ns)]])[S.length]? = some (.nd false [(nkey (N.first ns), D.int 0)]) := g_app g_last
  have g2 : ((S ++ [MP.O.nd false [(nkey (N.first ns), D.int 0)]]) ++ [MP.O.lst [stD (N.first ns)]])[S.length + 1]? = some (.lst [stD (N.first ns)]) := by rw [← l2]; exact g_last
  rw [l2]
  generalize ((S ++ [MP.O.nd false [(nkey (N.first ns), D.int 0)]]) ++ [MP.O.lst [stD (N.first ns)]]) = S2 at ch2 g1 g2 ⊢
  have hd := Nat.le_refl S.length
  generalize hdd : (S.length : Nat) = d at g1 g2 ⊢
  rw [hdd] at hd
  clear l2
  refine s_cons (s_whl (fun μ σ S' => ∃ (L : List St) (at_ : Nat) (kvs : List (NestedKey × D)) (s7 s8 : Option D), μ = m - at_ ∧ at_ ≤ L.length ∧ L.length ≤ m ∧ runU N.rs (F - at_) L at_ = N.run F ns ∧ (∀ x ∈ L, StOk nv nc x) ∧ kvs.map Prod.fst = L.map nkey ∧ (∀ kv ∈ kvs, ∃ z : Int, kv.2 = .int z) ∧ Ch [] S S' ∧ S'[d]? = some (.nd false kvs) ∧ S'[d + 1]? = some (.lst (L.map stD)) ∧ σ = [some (.ref n), some (stD (N.first ns)), some (.int (m : Nat)), some (.ref d), some (.ref (d + 1)), some (.int (at_ : Nat)), s7, s8]) m ⟨[N.first ns], 0, _, _, _, rfl, Nat.zero_le _, hm, rfl, fun x hx => by rw [List.mem_singleton.mp hx]; exact st0, rfl, fun kv hkv => by rw [List.mem_singleton.mp hkv]; exact ⟨_, rfl⟩, ch2, g1, g2, rfl⟩ fun μ σ S3 h => ?_)
  obtain ⟨L, i, kvs, s7, s8, rfl, hi, hL, hR, hok, hkv, hv, ch, gd, gl, rfl⟩ := h
  refine e_cmp (e_var rfl (e_blt (es_cons (e_var rfl (es_nil (f_lenr gl (c_lt (t_bl (d_2 (fun hlt => ?_) fun hlt => ?_)))))))))
  rotate_left
  · rw [List.length_map] at hlt
    rw [run_end (by omega)] at hR
    subst hR
    exact s_cons (s_ret (e_var rfl (q1 hL d kvs S3 ch (by omega) gd hkv)))
  rw [List.length_map] at hlt
  obtain ⟨st, hst⟩ : ∃ st, L[i]? = some st := ⟨_, List.getElem?_eq_getElem (by omega)⟩
  have hR2 : runU N.rs (F - (i + 1)) (turnU N.rs L st) (i + 1) = N.run F ns := by
    have : F - i = (F - (i + 1)) + 1 := by omega
    rw [this, run_more hst] at hR
    exact hR
  have sok := hok st (List.mem_of_getElem? hst)
  have tpre : ∀ i', turnU (N.rs.take i') L st <+: N.run F ns := fun i' => turn_le.trans (by rw [← hR2]; exact run_pre _ _ _ _)
  refine s_cons (s_for (i_seq (e_fld (e_var rfl (fld_ref (ch.get (fun z => nomatch z) g) N.f_rows ?_)))))
  dsimp only
  refine for_inv (hC _) (fun i' σ S' => ∃ (kvs : List (NestedKey × D)) (s7 s8 : Option D), (turnU (N.rs.take i') L st).length ≤ m ∧ kvs.map Prod.fst = (turnU (N.rs.take i') L st).map nkey ∧ (∀ kv ∈ kvs, ∃ z : Int, kv.2 = .int z) ∧ Ch [] S S' ∧ S'[d]? = some (.nd false kvs) ∧ S'[d + 1]? = some (.lst ((turnU (N.rs.take i') L st).map stD)) ∧ σ = [some (.ref n), some (stD (N.first ns)), some (.int (m : Nat)), some (.ref d), some (.ref (d + 1)), some (.int (i : Nat)), s7, s8]) ⟨kvs, _, _, hL, hkv, hv, ch, gd, gl, rfl⟩ (fun _ _ _ _ _ => gd_nil) (fun i' x σ S4 hx h => ?_) fun σ S4 h => ?_
  · clear hkv gd gl ch hv
    obtain ⟨kvs, s7, s8, hL2, hkv, hv, ch, gd, gl, rfl⟩ := h
    obtain ⟨nm, r, hm2, rfl, hr⟩ := rs_get hx
    have R := O.rk _ hm2
    have tt := turn_take (L := L) (s := st) hr
    have pre2 := tpre (i' + 1)
    rw [tt] at pre2 ⊢
    generalize hLL : turnU (N.rs.take i') L st = L2 at hL2 hkv gl tt pre2 ⊢
    have hst2 : L2[i]? = some st := pre_get (by rw [← hLL]; exact turn_pre _ _ _) hst
    dsimp only [asg, List.set]
    refine s_cons (s_nm (e_call (es_cons (e_var rfl (es_cons (e_ix (e_var rfl (e_var rfl (x_ref gl (st_at hst2) (es_nil (ltaken_ok (by omega) R sok fun S5 ch5 => ?_)))))))))))
    dsimp only [List.set]
    have gd5 := ch5.get (fun z => nomatch z) gd
    have gl5 := ch5.get (fun z => nomatch z) gl
    have chh := ch.trans ch5
    cases ho : takenF r st with
    | none =>
      refine s_cons (s_iff (e_and (e_cmp (e_var rfl (e_non (c_notn rfl (t_bl (k_f (t_bl (k_f (s_nil (s_nil ?_))))))))))))
      exact ⟨kvs, _, _, hL2, hkv, hv, chh, gd5, gl5, rfl⟩
    | some s' =>
      rw [ho] at pre2
      refine s_cons (s_iff (e_and (e_cmp (e_var rfl (e_non (c_notn' stD_ne (t_bl (k_t (e_cmp (e_var rfl (e_var rfl (nd_nin gd5 (ndKey_st s') (t_bl ?_)))))))))))))
      rw [get_none hkv]
      refine d_n2 (fun hin => ?_) fun hin => ?_
      · have ea : addN L2 (some s') = L2 ++ [s'] := by unfold addN; exact if_neg hin
        rw [ea] at pre2 ⊢
        have ple := pre2.length_le
        rw [List.length_append] at ple
        refine s_cons (s_iff (e_cmp (e_blt (es_cons (e_var rfl (es_nil (f_lenr gl5 (e_var rfl (c_ge (t_bl (d_2 (fun hge => ?_) fun hge => ?_)))))))))))
        · rw [List.length_map] at hge
          exact s_cons (s_ret (e_non (q2 (by simp at ple; omega) _ chh)))
        rw [List.length_map] at hge
        have lk : kvs.length = L2.length := by
          have := congrArg List.length hkv
          rw [List.length_map, List.length_map] at this
          exact this
        obtain ⟨v, z, hgv, rfl⟩ : ∃ v, ∃ z : Int, dGet kvs (nkey st) = some v ∧ v = .int z := by
          have h1 := get_none hkv st
          rw [decide_eq_true (List.mem_of_getElem? hst2)] at h1
          obtain ⟨v, hv1⟩ := Option.isSome_iff_exists.mp h1
          have hv2 := hv1
          unfold dGet at hv2
          obtain ⟨kv, hk1, hk2⟩ := Option.map_eq_some_iff.mp hv2
          obtain ⟨z, hz⟩ := hv kv (List.mem_of_find?_eq_some hk1)
          exact ⟨v, z, hv1, by rw [← hk2, hz]⟩
        refine s_nil (s_cons (s_ix (e_bin (e_ix (e_var rfl (e_ix (e_var rfl (e_var rfl (x_ref gl5 (st_at hst2) (nd_ix gd5 (ndKey_st st) hgv (e_int (b_add (e_var rfl (e_var rfl (nd_set gd5 (ndKey_st s') (by rw [lk, sizeLine_eq]; omega) ?_)))))))))))))))
        rw [put_new hkv hin]
        have gl6 := g_setn (o' := MP.O.nd false (kvs ++ [(nkey s', D.int (z + 1))])) (show d ≠ d + 1 by omega) gl5
        refine s_cons (s_ex (e_meth (e_var rfl ⟨r_lst ⟨by decide, by decide, by decide⟩ gl6, es_cons (e_var rfl (es_nil (m_app gl6 (by rw [List.length_map, sizeLine_eq]; omega) ?_)))⟩)))
        refine s_nil (s_nil ⟨kvs ++ [(nkey s', D.int (z + 1))], _, _, by rw [List.length_append]; simp; omega, by rw [List.map_append, List.map_append, hkv]; rfl, fun kv h => ?_, (chh.setn (by omega)).setn (by omega), g_setn (by omega) (g_set gd5), ?_, rfl⟩)
        · rcases List.mem_append.mp h with h | h
          · exact hv kv h
          · rw [List.mem_singleton.mp h]
            exact ⟨_, rfl⟩
        rw [List.map_append]
        exact g_set gl6
      · have ea : addN L2 (some s') = L2 := by unfold addN; exact if_pos hin
        rw [ea]
        exact s_nil (s_nil ⟨kvs, _, _, hL2, hkv, hv, chh, gd5, gl5, rfl⟩)
  · clear hkv gd gl ch hv
    obtain ⟨kvs, s7, s8, hL2, hkv, hv, ch, gd, gl, rfl⟩ := h
    rw [rs_all] at hL2 hkv gl
    refine s_cons (s_nm (e_bin (e_var rfl (e_int (b_add ?_)))))
    dsimp only [List.set]
    refine s_nil ⟨m - (i + 1), by omega, _, i + 1, kvs, _, _, rfl, ?_, hL2, hR2, turn_ok sok hok, hkv, hv, ch, gd, gl, rfl⟩
    have := (turn_pre N.rs L st).length_le
    omega
end
end K24
/-! K24E: law k24, dead ends; what is asked of an answer. -/
namespace K24
open PySem PySem.Spec PyProof.Rows L2 MP
local macro_rules | `(tactic| walk_at "look") => `(tactic| first | assumption | exact g_last | (with_reducible apply g_set; walk_at "look") | ((with_reducible refine g_setn ?h1 ?h2); (case h1 => first | assumption | omega | (apply Ne.symm; assumption)); (case h2 => walk_at "look")) | ((with_reducible refine g_app ?_); walk_at "look") | ((with_reducible refine' Fr.get ?h1 ?h2 ?h3); (case h1 => assumption); (case h2 => first | assumption | omega | (apply Ne.symm; assumption)); (case h3 => walk_at "look")) | ((with_reducible refine' Ch.get ?h1 ?h2 ?h3); (case h1 => assumption); (case h2 => first | assumption | (simp; done) | (simp only [List.mem_cons, List.not_mem_nil, or_false, not_or]; omega)); (case h3 => walk_at "look")))
local macro_rules | `(tactic| walk_at "kn") => `(tactic| first | assumption | omega | (simp; done) | decide)
local macro_rules | `(tactic| walk_at "sz") => `(tactic| first | assumption | (rw [sizeLine_eq]; first | omega | (simp; done) | (simp; omega)))
local macro_rules | `(tactic| walk_at "at") => `(tactic| first | exact rfl | assumption)
local macro_rules | `(tactic| walk_at "mp1") => `(tactic| first
  | with_reducible refine s_cons ?_ | with_reducible refine s_nil ?_ | with_reducible refine s_nm ?_ | with_reducible refine s_ix ?_ | with_reducible refine s_asg ?_ | with_reducible refine s_ex ?_ | with_reducible refine s_iff ?_ | with_reducible refine s_ret ?_ | with_reducible refine s_for ?_
  | ((with_reducible refine' e_var ?h1 ?_); (case h1 => exact rfl)) | with_reducible refine e_int ?_ | with_reducible refine e_bin ?_ | with_reducible refine e_cmp ?_ | with_reducible refine e_ix ?_ | with_reducible refine e_call ?_ | with_reducible refine e_blt ?_ | with_reducible refine e_bl ?_ | with_reducible refine e_and ?_ | with_reducible refine e_or ?_ | with_reducible refine e_not ?_ | with_reducible refine e_ite ?_
  | with_reducible refine es_cons ?_ | with_reducible refine es_nil ?_ | with_reducible refine e_tup ?_ | with_reducible refine e_lst ?_ | with_reducible refine e_meth ?_ | with_reducible refine e_comp ?_ | with_reducible refine e_sl ?_ | with_reducible refine e_neg ?_ | with_reducible refine e_isi ?_ | with_reducible refine e_lrg ?_ | with_reducible refine e_trg ?_ | with_reducible refine e_non ?_ | with_reducible refine e_str ?_ | with_reducible refine e_fnv ?_ | with_reducible refine e_orl ?_ | with_reducible refine e_dnew ?_ | with_reducible refine e_dget ?_ | with_reducible refine e_dget2 ?_
  | with_reducible refine o_no ?_ | with_reducible refine o_so ?_ | with_reducible refine i_rng ?_ | with_reducible refine i_seq ?_ | with_reducible refine i_enum ?_ | with_reducible refine i_rngD ?_ | with_reducible refine if_nil ?_ | with_reducible refine if_cons ?_ | with_reducible refine rg_1 ?_ | with_reducible refine rg_2 ?_
  | with_reducible refine b_add ?_ | with_reducible refine b_sub ?_ | ((with_reducible refine' b_mul ?h1 ?_); (case h1 => first | assumption | mul_fits)) | ((with_reducible refine' b_fdiv ?h1 ?h2 ?_); (case h1 => walk_at "kn"); (case h2 => first | assumption | decide)) | ((with_reducible refine' b_mod ?h1 ?_); (case h1 => walk_at "kn")) | ((with_reducible refine' b_pow ?h1 ?_); (case h1 => first | assumption | exact ⟨by decide, by decide, by decide⟩)) | ((with_reducible refine' b_shr ?h1 ?_); (case h1 => walk_at "kn")) | ((with_reducible refine' b_shl ?h1 ?_); (case h1 => assumption)) | with_reducible refine b_and ?_ | with_reducible refine b_or ?_ | with_reducible refine b_xor ?_
  | with_reducible refine c_lt ?_ | with_reducible refine c_le ?_ | with_reducible refine c_gt ?_ | with_reducible refine c_ge ?_ | with_reducible refine c_eqi ?_ | with_reducible refine c_nei ?_ | with_reducible refine c_eqb ?_ | with_reducible refine c_neb ?_ | with_reducible refine c_eqs ?_ | with_reducible refine c_nes ?_
  | with_reducible refine t_bl ?_ | with_reducible refine t_int ?_ | with_reducible refine t_tup ?_ | with_reducible refine t_non ?_
  | ((with_reducible refine' x_ref ?h1 ?h2 ?_); (case h1 => walk_at "look"); (case h2 => walk_at "at")) | ((with_reducible refine' x_tup ?h1 ?_); (case h1 => walk_at "at")) | ((with_reducible refine' x_klst ?h1 ?_); (case h1 => walk_at "at"))
  | ((with_reducible refine' set_ref ?h1 ?h2 ?_); (case h1 => walk_at "look"); (case h2 => walk_at "at"))
  | ((with_reducible refine' f_lenr ?h1 ?_); (case h1 => walk_at "look")) | with_reducible refine f_lent ?_ | with_reducible refine f_lenk ?_ | with_reducible refine f_int ?_ | ((with_reducible refine' f_listr ?h1 ?_); (case h1 => walk_at "look")) | with_reducible refine f_listt ?_ | with_reducible refine f_listk ?_ | ((with_reducible refine' f_tupr ?h1 ?_); (case h1 => walk_at "look")) | with_reducible refine f_tupt ?_ | with_reducible refine f_max ?_ | with_reducible refine f_min ?_
  | with_reducible refine sl_klst ?_ | ((with_reducible refine' sl_ref ?h1 ?_); (case h1 => walk_at "look")) | with_reducible refine sl_tup ?_
  | ((with_reducible refine' m_app ?h1 ?h2 ?_); (case h1 => walk_at "look"); (case h2 => walk_at "sz")) | ((with_reducible refine' m_ext ?h1 ?h2 ?h3 ?_); (case h1 => walk_at "look"); (case h2 => walk_at "look"); (case h3 => walk_at "sz")) | ((with_reducible refine' m_extT ?h1 ?h3 ?_); (case h1 => walk_at "look"); (case h3 => walk_at "sz"))
  | with_reducible refine k_t ?_ | with_reducible refine k_f ?_ | with_reducible refine k_nt ?_ | with_reducible refine k_nf ?_
  | ((with_reducible refine' d_t ?h1 ?_); (case h1 => first | assumption | omega)) | ((with_reducible refine' d_f ?h1 ?_); (case h1 => first | assumption | omega)) | ((with_reducible refine' d_nt ?h1 ?_); (case h1 => first | assumption | omega)) | ((with_reducible refine' d_nf ?h1 ?_); (case h1 => first | assumption | omega))
  | ((with_reducible refine' And.intro (r_lst ?h1 ?h2) ?_); (case h1 => decide); (case h2 => walk_at "look")) | (with_reducible refine And.intro r_int ?_)
  | ((with_reducible refine And.intro ?h1 ?_); (case h1 => (with_reducible show List.length _ ≤ sizeLine); walk_at "sz"))
  | dsimp only
  | dsimp only [isTy_int, isTy_bl, isTy_str, isTy_non, isTy_tup])
local macro_rules | `(tactic| walk_at "mp") => `(tactic| repeat walk_at "mp1")
local macro_rules | `(tactic| walk_at "tx1") => `(tactic| first
  | walk_at "mp1"
  | with_reducible refine e_cst ?_ | ((with_reducible refine' f_lens ?h1 ?_); (case h1 => walk_at "sz"))
  | ((with_reducible refine' x_str ?h1 ?h2 ?_); (case h1 => walk_at "sz"); (case h2 => walk_at "at"))
  | ((with_reducible refine' sl_str' ?h1 ?_); (case h1 => walk_at "sz")))
local macro_rules | `(tactic| walk_at "tx") => `(tactic| repeat walk_at "tx1")

theorem bls_map {α : Type} (f : α → Bool) : ∀ l : List α, blsOf (l.map fun x => D.bl (f x)) = some (l.map f)
  | [] => rfl
  | x :: r => by
    rw [List.map_cons, List.map_cons]
    simp only [blsOf, bls_map f r]
    rfl
theorem any_id {α : Type} (f : α → Bool) (l : List α) : (l.map f).any id = l.any f := by rw [List.any_map]; rfl
theorem all_id {α : Type} (f : α → Bool) (l : List α) : (l.map f).all id = l.all f := by rw [List.all_map]; rfl
/-- a state without a row that can be taken -/
def Net.end_ (N : Net) (s : St) : Bool := !N.rows.any fun x => canF x.2 s
theorem tN_pu {l : List Nat} {n : Nat} : puD (n + 1) (tN l) = true := puD_tup.mpr fun x hx => by
  obtain ⟨y, _, rfl⟩ := List.mem_map.mp hx
  exact puD_int
theorem stD_pu (s : St) {n : Nat} : puD (n + 2) (stD s) = true := pu2 tN_pu tN_pu
theorem sts_pu (L : List St) {n : Nat} : puD (n + 3) (.tup (L.map stD)) = true := puD_tup.mpr fun x hx => by
  obtain ⟨s, _, rfl⟩ := List.mem_map.mp hx
  exact stD_pu s
section
variable {k : Nat} {S : Sto} {Q : KD} {E : Ex → Sto → Prop}
theorem c_eqD {v : D} (h : puD 40 v = true) (q : Q (.bl true) S) : wpCmp .eq v v S Q := by
  obtain ⟨d, h2⟩ := da_of (n := 40) h
  have sh : SeqAt.shaped d = true := by
    unfold SeqAt.shaped
    rw [Bool.and_eq_true]
    refine ⟨h2.can, decide_eq_true ?_⟩
    have := h2.dep
    omega
  exact c_eqd (h2.pd S) (h2.pd S) sh sh (by rw [h2.eq]; exact q)
theorem c_neD {v : D} (h : puD 40 v = true) (q : Q (.bl false) S) : wpCmp .ne v v S Q := by
  obtain ⟨d, h2⟩ := da_of (n := 40) h
  have sh : SeqAt.shaped d = true := by
    unfold SeqAt.shaped
    rw [Bool.and_eq_true]
    refine ⟨h2.can, decide_eq_true ?_⟩
    have := h2.dep
    omega
  exact c_ned (h2.pd S) (h2.pd S) sh sh (by rw [h2.eq]; exact q)
theorem flt_take {α : Type} {l : List α} {p : α → Bool} {i : Nat} {x : α} (h : l[i]? = some x) : (l.take (i + 1)).filter p = (l.take i).filter p ++ (if p x = true then [x] else []) := by
  rw [List.take_succ, h, List.filter_append]
  congr 1
  show List.filter p [x] = _
  rw [List.filter_cons]
  split <;> rfl
theorem dead_ok (hk : 6 ≤ k) {nv nc n m F : Nat} {N : Net} {ns : List Nat} (g : S[n]? = some (.ins 0 N.fs)) (O : NetOk nv nc N) (hm : 1 ≤ m) (hM : m ≤ 5000) (hF : m < F)
    (q0 : ns.length ≠ N.added.length → ∀ S', Ch [] S S' → E ⟨2, .str "numbers"⟩ S') (q1 : ns.length = N.added.length → (N.run F ns).length ≤ m → RetV S (.tup (((N.run F ns).filter N.end_).map stD)) Q) (q2 : ns.length = N.added.length → m < (N.run F ns).length → ∀ S', Ch [] S S' → E ⟨1, .str "states"⟩ S') :
    C k fdead_ends [.ref n, tN ns, .int (m : Nat)] S Q E := by
  obtain ⟨k, rfl⟩ := up (n := 1) (by omega : 1 ≤ k)
  have hk : 5 ≤ k := by omega
  refine cdead_ends ?_
  unfold bdead_ends
  have lr := O.lr
  refine s_cons (s_ret (e_blt (es_cons (e_comp (i_seq (e_call (es_cons (e_var rfl (es_cons (e_var rfl (es_cons (e_var rfl (es_nil (walk_ok hk g O hm hM hF q0 (fun hl hle S1 ch1 => ?_) q2))))))))))))))
  replace q1 := q1 hl hle
  have sok : ∀ s ∈ N.run F ns, StOk nv nc s := run_ok fun x hx => by rw [List.mem_singleton.mp hx]; exact first_st O ns
  refine ⟨by rw [List.length_map, sizeLine_eq]; omega, ?_⟩
  refine comp_inv (comp_mono (hC k)) (fun i acc S' => acc = (((N.run F ns).take i).filter N.end_).map stD ∧ Ch [] S S') ⟨rfl, ch1⟩ (fun _ _ _ _ _ => gd_nil) (fun i x acc S2 hx h => ?_) fun acc S2 h => ?_
  · obtain ⟨rfl, ch⟩ := h
    rw [List.getElem?_map] at hx
    obtain ⟨s, hs, rfl⟩ := Option.map_eq_some_iff.mp hx
    have so := sok s (List.mem_of_getElem? hs)
    refine cmp_nm (if_cons (e_not (e_blt (es_cons (e_comp (i_seq (e_fld (e_var rfl (fld_ref (ch.get (fun z => nomatch z) g) N.f_rows ?_)))))))))
    refine ⟨by unfold Net.rD; rw [List.length_map, sizeLine_eq]; omega, ?_⟩
    refine comp_map (fun x : D × Row => rD x.1 x.2) (fun x => .bl (canF x.2 s)) gd_nil (xs := N.rows) (fun x hx K hK => ?_) ?_
    · exact cmp_nm (if_nil (k_t (e_call (es_cons (e_var rfl (es_cons (e_var rfl (es_nil (can_ok (by omega) (O.rk x hx) so hK)))))))))
    refine es_nil (f_any g_last (bls_map (fun x : D × Row => canF x.2 s) N.rows) ?_)
    rw [any_id]
    refine t_bl (t_bl ?_)
    have ft := flt_take (p := N.end_) hs
    show if N.end_ s = true then _ else _
    rw [ft, List.map_append]
    cases he : N.end_ s with
    | true => exact k_t (if_nil (k_t (e_var rfl ⟨rfl, ch.app⟩)))
    | false =>
      refine k_f ⟨?_, ch.app⟩
      show _ = _ ++ []
      rw [List.append_nil]
  · obtain ⟨rfl, ch⟩ := h
    rw [List.length_map, List.take_length]
    exact es_nil (f_tupr g_last (q1 _ ch.app))
theorem pair_ok (hk : 1 ≤ k) {s : St} (q : Q (.bl true) S) : C k f_law_is_pair [stD s] S Q E := by
  obtain ⟨k, rfl⟩ := up hk
  refine c_law_is_pair ?_
  unfold b_law_is_pair
  refine s_cons (s_iff (e_or (e_not (e_isi (e_var rfl ?_)))))
  show truK _ (.bl true) _
  refine t_bl (t_bl (k_f (e_cmp (e_blt (es_cons (e_var rfl (es_nil (f_lent (e_int (c_nei (t_bl ?_)))))))))))
  refine k_f (s_nil ?_)
  refine s_cons (s_for (i_seq (e_var rfl ?_)))
  dsimp only [stD]
  refine for_inv (hC k) (fun i σ S' => S' = S ∧ ∃ s1 s2, σ = [some (stD s), s1, s2]) ⟨rfl, _, _, rfl⟩ (fun _ _ _ _ _ => gd_nil) (fun i x σ S1 hx h => ?_) fun σ S1 h => ?_
  · obtain ⟨rfl, s1, s2, rfl⟩ := h
    obtain ⟨l, rfl⟩ : ∃ l, x = tN l := by
      have := List.mem_of_getElem? hx
      rcases List.mem_cons.mp this with h | h
      · exact ⟨_, h⟩
      · exact ⟨_, List.mem_singleton.mp h⟩
    dsimp only [asg, List.set]
    refine s_cons (s_iff (e_not (e_isi (e_var rfl ?_))))
    show truK _ (.bl true) _
    refine t_bl (t_bl (k_f (s_nil ?_)))
    refine s_cons (s_for (i_seq (e_var rfl ?_)))
    dsimp only [tN]
    refine for_inv (hC k) (fun i σ S' => S' = S1 ∧ ∃ s2, σ = [some (stD s), some (tN l), s2]) ⟨rfl, _, rfl⟩ (fun _ _ _ _ _ => gd_nil) (fun i x σ S1 hx h => ?_) fun σ S1 h => ?_
    · obtain ⟨rfl, s2, rfl⟩ := h
      obtain ⟨p, _, rfl⟩ := nl_get hx
      dsimp only [asg, List.set]
      refine s_cons (s_iff (e_or (e_not (e_isi (e_var rfl ?_)))))
      show truK _ (.bl true) _
      refine t_bl (t_bl (k_f (e_isi (e_var rfl ?_))))
      show truK _ (.bl false) _
      exact t_bl (k_f (s_nil (s_nil ⟨rfl, _, rfl⟩)))
    · obtain ⟨rfl, s2, rfl⟩ := h
      exact s_nil ⟨rfl, _, _, rfl⟩
  · obtain ⟨rfl, s1, s2, rfl⟩ := h
    exact s_cons (s_ret (e_bl q))
theorem same_ok (hk : 2 ≤ k) {L : List St} (hl : L.length ≤ 5000) (q : RetV S (.bl true) Q) : C k f_law_same_states [.tup [.str "told", .tup (L.map stD)], .tup (L.map stD)] S Q E := by
  obtain ⟨k, rfl⟩ := up (n := 1) (by omega : 1 ≤ k)
  have hk : 1 ≤ k := by omega
  refine c_law_same_states ?_
  unfold b_law_same_states
  refine s_cons (s_iff (e_or (e_cmp (e_ix (e_var rfl (e_int (x_tup rfl (e_str (c_nes (t_bl ?_))))))))))
  refine d_nf rfl (e_or (e_not (e_isi (e_ix (e_var rfl (e_int (x_tup rfl ?_)))))))
  show truK _ (.bl true) _
  refine t_bl (t_bl (k_f (e_cmp (e_blt (es_cons (e_ix (e_var rfl (e_int (x_tup rfl (es_nil (f_lent (e_blt (es_cons (e_var rfl (es_nil (f_lent (c_nei (t_bl ?_))))))))))))))))))
  refine d_nf rfl (s_nil ?_)
  refine s_cons (s_ret (e_and (e_blt (es_cons (e_comp (i_seq (e_ix (e_var rfl (e_int (x_tup rfl ?_))))))))))
  refine ⟨by rw [List.length_map, sizeLine_eq]; omega, ?_⟩
  refine comp_map stD (fun _ => .bl true) gd_nil (xs := L) (fun x hx K hK => ?_) ?_
  · exact cmp_nm (if_nil (k_t (e_call (es_cons (e_var rfl (es_nil (pair_ok hk hK)))))))
  refine es_nil (f_all g_last (bls_map (fun _ => true) L) ?_)
  have : (L.map fun _ => true).all id = true := by rw [List.all_eq_true]; intro x hx; obtain ⟨_, _, rfl⟩ := List.mem_map.mp hx; rfl
  rw [this]
  exact t_bl (k_t (e_cmp (e_ix (e_var rfl (e_int (x_tup rfl (e_var rfl (c_eqD (sts_pu L) (q _ Ch.refl.app)))))))))
/-! ### answers -/
def aT (L : List St) : D := .tup [.str "told", .tup (L.map stD)]
def aS : D := .tup [.str "states"]
def aN : D := .tup [.str "numbers"]
def Net.tell (N : Net) (b : Bool) (L : List St) : List St := if b = true then L.filter N.end_ else L
/-- what is answered at most m -/
def Net.ans (N : Net) (F m : Nat) (ns : List Nat) (b : Bool) : D :=
  if ns.length = N.added.length then (if (N.run F ns).length ≤ m then aT (N.tell b (N.run F ns)) else aS) else aN
/-- None is 3,000 -/
def Mo (v : D) (m : Nat) : Prop := (v = .non ∧ m = 3000) ∨ v = .int (m : Nat)
set_option maxHeartbeats 1000000 in
theorem ans_ok (hk : 7 ≤ k) {nv nc n m F : Nat} {N : Net} {ns : List Nat} {mo : D} {b : Bool} (g : S[n]? = some (.ins 0 N.fs)) (O : NetOk nv nc N) (hmo : Mo mo m) (hm : 1 ≤ m) (hM : m ≤ 5000) (hF : m < F) (q : RetV S (N.ans F m ns b) Q) : C k f_law_answered [.ref n, tN ns, mo, .bl b] S Q E := by
  obtain ⟨k, rfl⟩ := up (n := 1) (by omega : 1 ≤ k)
  have hk : 6 ≤ k := by omega
  refine c_law_answered ?_
  unfold b_law_answered
  refine s_cons (s_tri ?_)
  have hN : ns.length ≠ N.added.length → ∀ S', Ch [] S S' → Q aN S' := fun h S' ch => by
    have := q S' ch
    unfold Net.ans at this
    rw [if_neg h] at this
    exact this
  have hS : ns.length = N.added.length → m < (N.run F ns).length → ∀ S', Ch [] S S' → Q aS S' := fun h h2 S' ch => by
    have := q S' ch
    unfold Net.ans at this
    rw [if_pos h, if_neg (by omega)] at this
    exact this
  have hT : ns.length = N.added.length → (N.run F ns).length ≤ m → ∀ S', Ch [] S S' → Q (aT (N.tell b (N.run F ns))) S' := fun h h2 S' ch => by
    have := q S' ch
    unfold Net.ans at this
    rw [if_pos h, if_pos h2] at this
    exact this
  clear q
  -- what is handled
  have xN : ns.length ≠ N.added.length → ∀ S', Ch [] S S' → ∀ (a dd : Addr) (nx bk ct : MP.Env → Sto → Prop), wpSs (withEx a dd "word" ⟨2, .str "numbers"⟩ (C k)) (.cons (.iff (.or (.call exIs (.cons (.var 4) (.cons (.cst (.tup [])) .nil))) (.call exIs (.cons (.var 4) (.cons (.cst (.tup [])) .nil))))
    (.cons (.ret (.tup (.cons (.str "other") .nil))) .nil)
    .nil) (.cons (.iff (.call exIs (.cons (.var 4) (.cons (.cst (.tup [.int 2])) .nil)))
    (.cons (.ret (.ite (.call exIs (.cons (.var 4) (.cons (.cst (.tup [.int 1])) .nil))) (.tup (.cons (.str "other") .nil)) (.tup (.cons (.call exFld (.cons (.var 4) (.cons (.str "word") .nil))) .nil)))) .nil)
    .nil) (.cons (.ret (.ite (.call exIs (.cons (.var 4) (.cons (.cst (.tup [.int 1])) .nil))) (.tup (.cons (.call exFld (.cons (.var 4) (.cons (.str "part") .nil))) .nil)) (.tup (.cons (.str "other") .nil)))) .nil)))
      ⟨nx, Q, bk, ct, fun _ _ _ => False⟩ [some (.ref n), some (tN ns), some mo, some (.bl b), some (.exc a dd "word" (.str "numbers"))] S' := fun h S' ch a dd nx bk ct => by
    exact s_cons (s_iff (e_or (e_xis rfl rfl (t_bl (k_f (e_xis rfl rfl (t_bl (k_f (s_nil (s_cons (s_iff (e_xis rfl rfl (t_bl (k_t (s_cons (s_ret (e_ite (e_xis rfl rfl (t_bl (k_f (e_tup (es_cons (e_xfld rfl (es_nil ⟨one_sz, hN h S' ch⟩))))))))))))))))))))))))
  have xS : ns.length = N.added.length → m < (N.run F ns).length → ∀ S', Ch [] S S' → ∀ (a dd : Addr) (nx bk ct : MP.Env → Sto → Prop), wpSs (withEx a dd "part" ⟨1, .str "states"⟩ (C k)) (.cons (.iff (.or (.call exIs (.cons (.var 4) (.cons (.cst (.tup [])) .nil))) (.call exIs (.cons (.var 4) (.cons (.cst (.tup [])) .nil))))
    (.cons (.ret (.tup (.cons (.str "other") .nil))) .nil)
    .nil) (.cons (.iff (.call exIs (.cons (.var 4) (.cons (.cst (.tup [.int 2])) .nil)))
    (.cons (.ret (.ite (.call exIs (.cons (.var 4) (.cons (.cst (.tup [.int 1])) .nil))) (.tup (.cons (.str "other") .nil)) (.tup (.cons (.call exFld (.cons (.var 4) (.cons (.str "word") .nil))) .nil)))) .nil)
    .nil) (.cons (.ret (.ite (.call exIs (.cons (.var 4) (.cons (.cst (.tup [.int 1])) .nil))) (.tup (.cons (.call exFld (.cons (.var 4) (.cons (.str "part") .nil))) .nil)) (.tup (.cons (.str "other") .nil)))) .nil)))
      ⟨nx, Q, bk, ct, fun _ _ _ => False⟩ [some (.ref n), some (tN ns), some mo, some (.bl b), some (.exc a dd "part" (.str "states"))] S' := fun h h2 S' ch a dd nx bk ct => by
    exact s_cons (s_iff (e_or (e_xis rfl rfl (t_bl (k_f (e_xis rfl rfl (t_bl (k_f (s_nil (s_cons (s_iff (e_xis rfl rfl (t_bl (k_f (s_nil (s_cons (s_ret (e_ite (e_xis rfl rfl (t_bl (k_t (e_tup (es_cons (e_xfld rfl (es_nil ⟨one_sz, hS h h2 S' ch⟩)))))))))))))))))))))))))
  refine s_cons (s_iff (e_var rfl (t_bl ?_)))
  cases b with
  | true =>
    refine k_t (s_cons (s_ret (e_tup (es_cons (e_str (es_cons (e_ite ?_)))))))
    rcases hmo with ⟨rfl, rfl⟩ | rfl
    · exact e_cmp (e_var rfl (e_non (c_isn rfl (t_bl (k_t (e_call (es_cons (e_var rfl (es_cons (e_var rfl (es_cons (e_cst (es_nil (dead_ok (m := 3000) hk g O hm hM hF (fun h S' ch a dd => xN h S' ch a dd _ _ _) (fun h h2 S' ch => es_nil ⟨two_sz, hT h h2 S' ch⟩) fun h h2 S' ch a dd => xS h h2 S' ch a dd _ _ _))))))))))))))
    · exact e_cmp (e_var rfl (e_non (c_isn' (by intro h; cases h) (t_bl (k_f (e_call (es_cons (e_var rfl (es_cons (e_var rfl (es_cons (e_var rfl (es_nil (dead_ok hk g O hm hM hF (fun h S' ch a dd => xN h S' ch a dd _ _ _) (fun h h2 S' ch => es_nil ⟨two_sz, hT h h2 S' ch⟩) fun h h2 S' ch a dd => xS h h2 S' ch a dd _ _ _))))))))))))))
  | false =>
    refine k_f (s_nil (s_cons (s_ret (e_tup (es_cons (e_str (es_cons (e_ite ?_))))))))
    rcases hmo with ⟨rfl, rfl⟩ | rfl
    · exact e_cmp (e_var rfl (e_non (c_isn rfl (t_bl (k_t (e_call (es_cons (e_var rfl (es_cons (e_var rfl (es_cons (e_cst (es_nil (walk_ok (m := 3000) (by omega) g O hm hM hF (fun h S' ch a dd => xN h S' ch a dd _ _ _) (fun h h2 S' ch => es_nil ⟨two_sz, hT h h2 S' ch⟩) fun h h2 S' ch a dd => xS h h2 S' ch a dd _ _ _))))))))))))))
    · exact e_cmp (e_var rfl (e_non (c_isn' (by intro h; cases h) (t_bl (k_f (e_call (es_cons (e_var rfl (es_cons (e_var rfl (es_cons (e_var rfl (es_nil (walk_ok (by omega) g O hm hM hF (fun h S' ch a dd => xN h S' ch a dd _ _ _) (fun h h2 S' ch => es_nil ⟨two_sz, hT h h2 S' ch⟩) fun h h2 S' ch a dd => xS h h2 S' ch a dd _ _ _))))))))))))))
end
end K24
/-! K24F: law k24, draws and rows. -/
namespace K24
open PySem PySem.Spec PyProof.Rows L2 MP
local macro_rules | `(tactic| walk_at "look") => `(tactic| first | assumption | exact g_last | (with_reducible apply g_set; walk_at "look") | ((with_reducible refine g_setn ?h1 ?h2); (case h1 => first | assumption | omega | (apply Ne.symm; assumption)); (case h2 => walk_at "look")) | ((with_reducible refine g_app ?_); walk_at "look") | ((with_reducible refine' Fr.get ?h1 ?h2 ?h3); (case h1 => assumption); (case h2 => first | assumption | omega | (apply Ne.symm; assumption)); (case h3 => walk_at "look")) | ((with_reducible refine' Ch.get ?h1 ?h2 ?h3); (case h1 => assumption); (case h2 => first | assumption | (simp; done) | (simp only [List.mem_cons, List.not_mem_nil, or_false, not_or]; omega)); (case h3 => walk_at "look")))
local macro_rules | `(tactic| walk_at "kn") => `(tactic| first | assumption | omega | (simp; done) | decide)
local macro_rules | `(tactic| walk_at "sz") => `(tactic| first | assumption | (rw [sizeLine_eq]; first | omega | (simp; done) | (simp; omega)))
local macro_rules | `(tactic| walk_at "at") => `(tactic| first | exact rfl | assumption)
local macro_rules | `(tactic| walk_at "mp1") => `(tactic| first
  | with_reducible refine s_cons ?_ | with_reducible refine s_nil ?_ | with_reducible refine s_nm ?_ | with_reducible refine s_ix ?_ | with_reducible refine s_asg ?_ | with_reducible refine s_ex ?_ | with_reducible refine s_iff ?_ | with_reducible refine s_ret ?_ | with_reducible refine s_for ?_
  | ((with_reducible refine' e_var ?h1 ?_); (case h1 => exact rfl)) | with_reducible refine e_int ?_ | with_reducible refine e_bin ?_ | with_reducible refine e_cmp ?_ | with_reducible refine e_ix ?_ | with_reducible refine e_call ?_ | with_reducible refine e_blt ?_ | with_reducible refine e_bl ?_ | with_reducible refine e_and ?_ | with_reducible refine e_or ?_ | with_reducible refine e_not ?_ | with_reducible refine e_ite ?_
  | with_reducible refine es_cons ?_ | with_reducible refine es_nil ?_ | with_reducible refine e_tup ?_ | with_reducible refine e_lst ?_ | with_reducible refine e_meth ?_ | with_reducible refine e_comp ?_ | with_reducible refine e_sl ?_ | with_reducible refine e_neg ?_ | with_reducible refine e_isi ?_ | with_reducible refine e_lrg ?_ | with_reducible refine e_trg ?_ | with_reducible refine e_non ?_ | with_reducible refine e_str ?_ | with_reducible refine e_fnv ?_ | with_reducible refine e_orl ?_ | with_reducible refine e_dnew ?_ | with_reducible refine e_dget ?_ | with_reducible refine e_dget2 ?_
  | with_reducible refine o_no ?_ | with_reducible refine o_so ?_ | with_reducible refine i_rng ?_ | with_reducible refine i_seq ?_ | with_reducible refine i_enum ?_ | with_reducible refine i_rngD ?_ | with_reducible refine if_nil ?_ | with_reducible refine if_cons ?_ | with_reducible refine rg_1 ?_ | with_reducible refine rg_2 ?_
  | with_reducible refine b_add ?_ | with_reducible refine b_sub ?_ | ((with_reducible refine' b_mul ?h1 ?_); (case h1 => first | assumption | mul_fits)) | ((with_reducible refine' b_fdiv ?h1 ?h2 ?_); (case h1 => walk_at "kn"); (case h2 => first | assumption | decide)) | ((with_reducible refine' b_mod ?h1 ?_); (case h1 => walk_at "kn")) | ((with_reducible refine' b_pow ?h1 ?_); (case h1 => first | assumption | exact ⟨by decide, by decide, by decide⟩)) | ((with_reducible refine' b_shr ?h1 ?_); (case h1 => walk_at "kn")) | ((with_reducible refine' b_shl ?h1 ?_); (case h1 => assumption)) | with_reducible refine b_and ?_ | with_reducible refine b_or ?_ | with_reducible refine b_xor ?_
  | with_reducible refine c_lt ?_ | with_reducible refine c_le ?_ | with_reducible refine c_gt ?_ | with_reducible refine c_ge ?_ | with_reducible refine c_eqi ?_ | with_reducible refine c_nei ?_ | with_reducible refine c_eqb ?_ | with_reducible refine c_neb ?_ | with_reducible refine c_eqs ?_ | with_reducible refine c_nes ?_
  | with_reducible refine t_bl ?_ | with_reducible refine t_int ?_ | with_reducible refine t_tup ?_ | with_reducible refine t_non ?_
  | ((with_reducible refine' x_ref ?h1 ?h2 ?_); (case h1 => walk_at "look"); (case h2 => walk_at "at")) | ((with_reducible refine' x_tup ?h1 ?_); (case h1 => walk_at "at")) | ((with_reducible refine' x_klst ?h1 ?_); (case h1 => walk_at "at"))
  | ((with_reducible refine' set_ref ?h1 ?h2 ?_); (case h1 => walk_at "look"); (case h2 => walk_at "at"))
  | ((with_reducible refine' f_lenr ?h1 ?_); (case h1 => walk_at "look")) | with_reducible refine f_lent ?_ | with_reducible refine f_lenk ?_ | with_reducible refine f_int ?_ | ((with_reducible refine' f_listr ?h1 ?_); (case h1 => walk_at "look")) | with_reducible refine f_listt ?_ | with_reducible refine f_listk ?_ | ((with_reducible refine' f_tupr ?h1 ?_); (case h1 => walk_at "look")) | with_reducible refine f_tupt ?_ | with_reducible refine f_max ?_ | with_reducible refine f_min ?_
  | with_reducible refine sl_klst ?_ | ((with_reducible refine' sl_ref ?h1 ?_); (case h1 => walk_at "look")) | with_reducible refine sl_tup ?_
  | ((with_reducible refine' m_app ?h1 ?h2 ?_); (case h1 => walk_at "look"); (case h2 => walk_at "sz")) | ((with_reducible refine' m_ext ?h1 ?h2 ?h3 ?_); (case h1 => walk_at "look"); (case h2 => walk_at "look"); (case h3 => walk_at "sz")) | ((with_reducible refine' m_extT ?h1 ?h3 ?_); (case h1 => walk_at "look"); (case h3 => walk_at "sz"))
  | with_reducible refine k_t ?_ | with_reducible refine k_f ?_ | with_reducible refine k_nt ?_ | with_reducible refine k_nf ?_
  | ((with_reducible refine' d_t ?h1 ?_); (case h1 => first | assumption | omega)) | ((with_reducible refine' d_f ?h1 ?_); (case h1 => first | assumption | omega)) | ((with_reducible refine' d_nt ?h1 ?_); (case h1 => first | assumption | omega)) | ((with_reducible refine' d_nf ?h1 ?_); (case h1 => first | assumption | omega))
  | ((with_reducible refine' And.intro (r_lst ?h1 ?h2) ?_); (case h1 => decide); (case h2 => walk_at "look")) | (with_reducible refine And.intro r_int ?_)
  | ((with_reducible refine And.intro ?h1 ?_); (case h1 => (with_reducible show List.length _ ≤ sizeLine); walk_at "sz"))
  | dsimp only
  | dsimp only [isTy_int, isTy_bl, isTy_str, isTy_non, isTy_tup])
local macro_rules | `(tactic| walk_at "mp") => `(tactic| repeat walk_at "mp1")
local macro_rules | `(tactic| walk_at "tx1") => `(tactic| first
  | walk_at "mp1"
  | with_reducible refine e_cst ?_ | ((with_reducible refine' f_lens ?h1 ?_); (case h1 => walk_at "sz"))
  | ((with_reducible refine' x_str ?h1 ?h2 ?_); (case h1 => walk_at "sz"); (case h2 => walk_at "at"))
  | ((with_reducible refine' sl_str' ?h1 ?_); (case h1 => walk_at "sz")))
local macro_rules | `(tactic| walk_at "tx") => `(tactic| repeat walk_at "tx1")

def ts (i : Nat) : Str := Str.ofString (toString (i : Int))
theorem ts_all : ((List.range 100).all fun n => decide ((ts n).length ≤ 12)) = true := by decide +kernel
theorem ts_len {n : Nat} (h : n < 100) : (ts n).length ≤ 12 := of_decide_eq_true (List.all_eq_true.mp ts_all n (List.mem_range.mpr h))
theorem app_len (x y : Str) : (x ++ y).length = x.length + y.length := by
  show (x.cps ++ y.cps).size = _
  rw [Array.size_append]
  rfl
theorem s_mid {c : CallT} (hc : CallMono c c) {s : MS} {ss : MSs} {nx bk ct : MP.Env → Sto → Prop} {rt : KD} {ex : Ex → MP.Env → Sto → Prop} {σ : MP.Env} {S : Sto} (P : MP.Env → Sto → Prop) (h1 : wpS c s ⟨P, rt, bk, ct, ex⟩ σ S) (h2 : ∀ σ' S', P σ' S' → wpSs c ss ⟨nx, rt, bk, ct, ex⟩ σ' S') : wpSs c (.cons s ss) ⟨nx, rt, bk, ct, ex⟩ σ S :=
  s_cons (wpS_mono hc s h1 ⟨fun σ' S' z => h2 σ' S' z, fun _ _ z => z, fun _ _ z => z, fun _ _ z => z, fun _ _ _ z => z⟩)
theorem pow1 {n : Nat} (h : 1 ≤ n) : 0 < 2 ^ n - 1 := by
  have : 2 ^ 1 ≤ 2 ^ n := Nat.pow_le_pow_right (by decide) h
  omega
theorem pow40 {n : Nat} (h : n ≤ 40) : 2 ^ n - 1 < 2 ^ 64 := by
  have : 2 ^ n ≤ 2 ^ 40 := Nat.pow_le_pow_right (by decide) h
  have e : 2 ^ 40 < 2 ^ 64 := by decide
  omega
section
variable {k a b : Nat} {S : Sto} {Q : KD} {E : Ex → Sto → Prop} {c : CallT} {σ : MP.Env}
theorem f_ts {n : Nat} (h : n < 100) (q : Q (.str (ts n)) S) : wpBlt .str [.int (n : Nat)] S Q := by
  refine f_str ?_ q
  rw [Int.natAbs_natCast]
  exact Nat.lt_of_le_of_lt (Nat.log2_le_self n) (by omega)
end
section
variable {k a b : Nat} {S : Sto} {Q : KD} {E : Ex → Sto → Prop}
theorem draw_nat (hk : 1 ≤ k) (ds : DS S a b) {n : Nat} (h0 : 0 < n) (hn : n < 2 ^ 64) {v : Int} (hv : v = (n : Nat)) (q : ∀ (i : Nat) (S' : Sto), i < n → DS S' a b → Fr a S S' → Q (.int (i : Nat)) S') : C k f_law_draw [.ref a, .int v] S Q E := by
  subst hv
  refine draw_is hk a b _ _ _ _ ds (log2_nat hn) fun r S' r0 r1 ds1 fr1 _ => ?_
  obtain ⟨i, rfl⟩ := Int.eq_ofNat_of_zero_le r0
  exact q i S' (by omega) ds1 fr1
theorem pick_is (hk : 2 ≤ k) {row : D} {xs : List D} (ds : DS S a b) (h0 : 0 < xs.length) (hl : xs.length < 2 ^ 64) (hr : row = .tup xs ∨ ∃ r, row = .ref r ∧ r ≠ a ∧ S[r]? = some (.lst xs)) (q : ∀ (x : D) (S' : Sto), x ∈ xs → DS S' a b → Fr a S S' → Q x S') : C k f_law_pick [.ref a, row] S Q E := by
  obtain ⟨k, rfl⟩ := up (n := 1) (by omega : 1 ≤ k)
  exact c_law_pick (pick_ok (draw_is (by omega)) ds h0 hl hr fun x S' hx d f _ => q x S' hx d f)
theorem comp_dr {c : CallT} {gs : List (Nat × List D)} {body : D → Sto → (Option D → Sto → Prop) → Prop} (S0 : Sto) (gd : ∀ S', Fr a S0 S' → Gd gs S') : ∀ {xs : List D} {S : Sto} {R : List D → Sto → Prop} (P : Nat → Nat → Prop), DS S a b → Fr a S0 S → (∀ i x S' (K : Option D → Sto → Prop), xs[i]? = some x → DS S' a b → Fr a S0 S' → (∀ (v : Nat) S'', P i v → DS S'' a b → Fr a S' S'' → K (some (.int (v : Nat))) S'') → body x S' K) →
    (∀ ms S', ms.length = xs.length → (∀ i, i < xs.length → P i (ms.getD i 0)) → DS S' a b → Fr a S0 S' → R (nl ms) S') → wpComp gs body xs S R
  | [], S, R, P, ds, fr, _, q => ⟨gd S fr, q [] S rfl (fun i h => absurd h (Nat.not_lt_zero _)) ds fr⟩
  | x :: r, S, R, P, ds, fr, h, q => ⟨gd S fr, h 0 x S _ rfl ds fr fun v S1 hv ds1 fr1 => comp_dr (c := c) S0 gd (fun i => P (i + 1)) ds1 (fr.trans fr1) (fun i y S' K hy => h (i + 1) y S' K hy) fun ms S2 hl hp ds2 fr2 => q (v :: ms) S2 (by simp [hl]) (fun i hi => by
      cases i with
      | zero => exact hv
      | succ i => exact hp i (by simpa using hi)) ds2 fr2⟩
theorem rare_is {n : Nat} (hk : 2 ≤ k) (h0 : 0 < n) (hn : n < 1000) (ds : DS S a b) {v : Int} (hv : v = (n : Nat)) (q : ∀ (r : Bool) (S' : Sto), DS S' a b → Fr a S S' → Q (.bl r) S') : C k f_law_rare [.ref a, .int v] S Q E := by
  subst hv
  obtain ⟨k, rfl⟩ := up (n := 1) (by omega : 1 ≤ k)
  refine c_law_rare ?_
  unfold b_law_rare
  exact s_cons (s_ret (e_cmp (e_call (es_cons (e_var rfl (es_cons (e_var rfl (es_nil (draw_nat (by omega) ds (n := n) h0 (by omega) rfl fun i S1 hi ds1 fr1 => e_bin (e_var rfl (e_int (b_fdiv (by decide) (by decide) (c_eqi (q _ S1 ds1 fr1))))))))))))))
theorem mask_ok (hk : 2 ≤ k) {n : Nat} (ds : DS S a b) (h0 : 1 ≤ n) (hn : n ≤ 40) (q : ∀ (m : Nat) S', DS S' a b → Fr a S S' → Q (.int (m : Nat)) S') : C k f_law_mask [.ref a, .int (n : Nat)] S Q E := by
  obtain ⟨k, rfl⟩ := up (n := 1) (by omega : 1 ≤ k)
  have hk : 1 ≤ k := by omega
  refine c_law_mask ?_
  unfold b_law_mask
  refine s_cons (s_ret (e_bin (e_int (e_call (es_cons (e_var rfl (es_cons (e_call (es_cons (e_var rfl (es_nil (lfull_ok hk hn (es_nil (draw_nat hk ds (n := 2 ^ n - 1) (pow1 h0) (pow40 hn) rfl fun i S1 hi ds1 fr1 => b_add ?_))))))))))))))
  rw [show (1 : Int) + (i : Nat) = ((i + 1 : Nat) : Int) by omega]
  exact q _ S1 ds1 fr1
/-- the list at r grows by a pair -/
theorem pD_app (T : Ps) (x : Nat × Nat) : T.map pD ++ [pD x] = (T ++ [x]).map pD := by rw [List.map_append]; rfl
set_option maxHeartbeats 2000000 in
theorem row_ok (hk : 4 ≤ k) {c nc : Nat} {sz : List Nat} {nm : D} (ds : DS S a b) (hca : c ≠ a) (g : S[c]? = some (.lst (nl sz))) (hl : sz.length ≤ 90) (hs : ∀ v, v < sz.length → 1 ≤ sz.getD v 0 ∧ sz.getD v 0 ≤ 40) (hc : nc ≤ 90)
    (q : ∀ r S', RowOk sz.length nc r → DS S' a b → Fr a S S' → Q (rD nm r) S') : C k f_law_row [.ref a, .ref c, .int (nc : Nat), nm] S Q E := by
  obtain ⟨k, rfl⟩ := up (n := 1) (by omega : 1 ≤ k)
  have hk : 3 ≤ k := by omega
  refine c_law_row ?_
  unfold b_law_row
  have lta := ds.lta
  have ltb := ds.ltb
  have ltc := g_lt g
  refine s_cons (s_nm (e_lst (es_nil ⟨by decide, ?_⟩)))
  dsimp only [List.set]
  refine s_cons (s_nm (e_lst (es_nil ⟨by decide, ?_⟩)))
  dsimp only [List.set]
  have l2 : (S ++ [MP.O.lst []]).length = S.length + 1 := by simp
  have g1 : ((S ++ [MP.O.lst []]) ++ [MP.O.lst []])[S.length]? = some (.lst (([] : Ps).map pD)) := g_app g_last
  have g2 : ((S ++ [MP.O.lst []]) ++ [MP.O.lst []])[S.length + 1]? = some (.lst (([] : Ps).map pD)) := by rw [← l2]; exact g_last
  have fr0 : Fr a S ((S ++ [MP.O.lst []]) ++ [MP.O.lst []]) := Fr.app.trans Fr.app
  have ds0 := (ds.app (l := [MP.O.lst []])).app (l := [MP.O.lst []])
  rw [l2]
  generalize ((S ++ [MP.O.lst []]) ++ [MP.O.lst []]) = S1 at g1 g2 fr0 ds0 ⊢
  clear ds l2
  refine s_mid (hC k) (fun σ S' => ∃ (T U : Ps) (s6 s7 s8 : Option D), (∀ x ∈ T, x.1 < sz.length) ∧ (∀ x ∈ U, x.1 < sz.length) ∧ DS S' a b ∧ Fr a S S' ∧ S'[S.length]? = some (.lst (T.map pD)) ∧ S'[S.length + 1]? = some (.lst (U.map pD)) ∧ σ = [some (.ref a), some (.ref c), some (.int (nc : Nat)), some nm, some (.ref S.length), some (.ref (S.length + 1)), s6, s7, s8, none, none]) (s_for (i_rng (es_cons (e_blt (es_cons (e_var rfl (es_nil (f_lenr (fr0.get hca g) (es_nil (rg_1 ⟨?_, ?_⟩)))))))))) fun σ S2 h => ?_
  · rw [nl_len]
    exact rg_ok (by omega)
  · rw [nl_len]
    refine for_rg (hC k) (fun i σ S' => ∃ (T U : Ps) (s6 s7 s8 : Option D), (∀ x ∈ T, x.1 < i) ∧ (∀ x ∈ U, x.1 < i) ∧ T.length ≤ i ∧ U.length ≤ i ∧ DS S' a b ∧ Fr a S S' ∧ S'[S.length]? = some (.lst (T.map pD)) ∧ S'[S.length + 1]? = some (.lst (U.map pD)) ∧ σ = [some (.ref a), some (.ref c), some (.int (nc : Nat)), some nm, some (.ref S.length), some (.ref (S.length + 1)), s6, s7, s8, none, none]) ⟨[], [], _, _, _, (fun _ z => nomatch z), (fun _ z => nomatch z), Nat.le_refl _, Nat.le_refl _, ds0, fr0, g1, g2, rfl⟩ (fun i σ S2 hi h => ?_) fun σ S2 h => ?_
    · clear g1 g2 fr0 ds0
      obtain ⟨T, U, s6, s7, s8, hT, hU, lT, lU, ds2, fr2, gT, gU, rfl⟩ := h
      have hsi := hs i hi
      dsimp only [List.set]
      refine s_cons (s_nm (e_call (es_cons (e_var rfl (es_cons (e_int (es_nil (draw_nat (by omega) ds2 (n := 4) (by decide) (by decide) rfl fun w S3 hw ds3 fr3 => ?_))))))))
      dsimp only [List.set]
      have fr3' := fr2.trans fr3
      have gT3 := fr3.get (by omega) gT
      have gU3 := fr3.get (by omega) gU
      have gc3 := fr3'.get hca g
      refine s_mid (hC k) (fun σ S' => ∃ (T : Ps) (s8 : Option D), (∀ x ∈ T, x.1 < i + 1) ∧ T.length ≤ i + 1 ∧ DS S' a b ∧ Fr a S S' ∧ S'[S.length]? = some (.lst (T.map pD)) ∧ S'[S.length + 1]? = some (.lst (U.map pD)) ∧ σ = [some (.ref a), some (.ref c), some (.int (nc : Nat)), some nm, some (.ref S.length), some (.ref (S.length + 1)), some (.int (i : Nat)), some (.int (w : Nat)), s8, none, none]) (s_iff (e_cmp (e_var rfl (e_int (c_gt (t_bl (d_2 (fun hb => ?_) fun hb => s_nil ⟨T, _, fun x hx => Nat.lt_succ_of_lt (hT x hx), by omega, ds3, fr3', gT3, gU3, rfl⟩))))))) fun σ S4 h => ?_
      · refine s_mid (hC k) (fun σ S' => ∃ (m : Nat), DS S' a b ∧ Fr a S3 S' ∧ σ = [some (.ref a), some (.ref c), some (.int (nc : Nat)), some nm, some (.ref S.length), some (.ref (S.length + 1)), some (.int (i : Nat)), some (.int (w : Nat)), some (.int (m : Nat)), none, none]) (s_nm (e_ite (e_cmp (e_var rfl (e_int (c_eqi (t_bl (d_2 (fun he => ?_) fun he => ?_)))))))) fun σ S4 h => ?_
        · refine e_bin (e_int (e_call (es_cons (e_var rfl (es_cons (e_ix (e_var rfl (e_var rfl (x_rl gc3 hi (es_nil (draw_nat (by omega) ds3 (n := sz.getD i 0) (by omega) (by omega) rfl fun j S4 hj ds4 fr4 => b_shl (shl1 (by omega)) ?_)))))))))))
          rw [one_shl]
          exact ⟨_, ds4, fr4, rfl⟩
        · exact e_call (es_cons (e_var rfl (es_cons (e_ix (e_var rfl (e_var rfl (x_rl gc3 hi (es_nil (mask_ok (by omega) ds3 hsi.1 hsi.2 fun m S4 ds4 fr4 => ⟨m, ds4, fr4, rfl⟩)))))))))
        obtain ⟨m, ds4, fr4, rfl⟩ := h
        have gT4 := fr4.get (by omega) gT3
        have gU4 := fr4.get (by omega) gU3
        refine s_cons (s_iff (e_cmp (e_var rfl (e_call (es_cons (e_ix (e_var rfl (e_var rfl (x_rl (fr4.get hca gc3) hi (es_nil (lfull_ok (by omega) hsi.2 (c_nei (t_bl (d_n2 (fun he => ?_) fun he => ?_))))))))))))))
        · refine s_cons (s_ex (e_meth (e_var rfl ⟨r_lst ⟨by decide, by decide, by decide⟩ gT4, es_cons (e_tup (es_cons (e_var rfl (es_cons (e_var rfl (es_nil ⟨two_sz, es_nil (m_app gT4 (by rw [List.length_map, sizeLine_eq]; omega) ?_)⟩))))))⟩)))
          refine s_nil (s_nil ⟨T ++ [(i, m)], _, fun x hx => ?_, by rw [List.length_append]; simp; omega, ds4.setn (by omega) (by omega), (fr3'.trans fr4).setn (by omega), ?_, g_setn (by omega) gU4, rfl⟩)
          · rcases List.mem_append.mp hx with z | z
            · exact Nat.lt_succ_of_lt (hT x z)
            · rw [List.mem_singleton.mp z]; exact Nat.lt_succ_self i
          · rw [← pD_app]
            exact g_set gT4
        · exact s_nil (s_nil ⟨T, _, fun x hx => Nat.lt_succ_of_lt (hT x hx), by omega, ds4, fr3'.trans fr4, gT4, gU4, rfl⟩)
      clear gT3 gU3 gc3 fr3' hT lT gT gU
      obtain ⟨T, s8, hT, lT, ds4, fr4, gT, gU, rfl⟩ := h
      refine s_cons (s_iff (e_cmp (e_call (es_cons (e_var rfl (es_cons (e_int (es_nil (draw_nat (by omega) ds4 (n := 2) (by decide) (by decide) rfl fun w2 S5 hw2 ds5 fr5 => e_int (c_eqi (t_bl (d_2 (fun he => ?_) fun he => ?_))))))))))))
      · have gT5 := fr5.get (by omega) gT
        have gU5 := fr5.get (by omega) gU
        refine s_cons (s_ex (e_meth (e_var rfl ⟨r_lst ⟨by decide, by decide, by decide⟩ gU5, es_cons (e_tup (es_cons (e_var rfl (es_cons (e_call (es_cons (e_var rfl (es_cons (e_ix (e_var rfl (e_var rfl (x_rl ((fr4.trans fr5).get hca g) hi (es_nil (draw_nat (by omega) ds5 (n := sz.getD i 0) (by omega) (by omega) rfl fun j S6 hj ds6 fr6 => es_nil ⟨two_sz, es_nil (m_app (fr6.get (by omega) gU5) (by rw [List.length_map, sizeLine_eq]; omega) ?_)⟩))))))))))))))⟩)))
        refine s_nil (s_nil ⟨T, U ++ [(i, j)], _, _, _, hT, fun x hx => ?_, lT, by rw [List.length_append]; simp; omega, ds6.setn (by omega) (by omega), ((fr4.trans fr5).trans fr6).setn (by omega), g_setn (by omega) (fr6.get (by omega) gT5), ?_, rfl⟩)
        · rcases List.mem_append.mp hx with z | z
          · exact Nat.lt_succ_of_lt (hU x z)
          · rw [List.mem_singleton.mp z]; exact Nat.lt_succ_self i
        · rw [← pD_app]
          exact g_set (fr6.get (by omega) gU5)
      · exact s_nil (s_nil ⟨T, U, _, _, _, hT, fun x hx => Nat.lt_succ_of_lt (hU x hx), lT, by omega, ds5, fr4.trans fr5, fr5.get (by omega) gT, fr5.get (by omega) gU, rfl⟩)
    · obtain ⟨T, U, s6, s7, s8, hT, hU, lT, lU, ds2, fr2, gT, gU, rfl⟩ := h
      exact ⟨T, U, _, _, _, hT, hU, ds2, fr2, gT, gU, rfl⟩
  clear g1 g2 fr0 ds0
  obtain ⟨T, U, s6, s7, s8, hT, hU, ds2, fr2, gT, gU, rfl⟩ := h
  have le2 := fr2.le
  have lT2 := g_lt gT
  have lU2 := g_lt gU
  refine s_cons (s_nm (e_lst (es_nil ⟨by decide, ?_⟩)))
  dsimp only [List.set]
  refine s_cons (s_nm (e_lst (es_nil ⟨by decide, ?_⟩)))
  dsimp only [List.set]
  have l2 : (S2 ++ [MP.O.lst []]).length = S2.length + 1 := by simp
  have g1 : ((S2 ++ [MP.O.lst []]) ++ [MP.O.lst []])[S2.length]? = some (.lst (([] : Ps).map pD)) := g_app g_last
  have g2 : ((S2 ++ [MP.O.lst []]) ++ [MP.O.lst []])[S2.length + 1]? = some (.lst (([] : Ps).map pD)) := by rw [← l2]; exact g_last
  have fr0 : Fr a S ((S2 ++ [MP.O.lst []]) ++ [MP.O.lst []]) := (fr2.trans Fr.app).trans Fr.app
  have ds0 := (ds2.app (l := [MP.O.lst []])).app (l := [MP.O.lst []])
  replace gT := g_app (l := [MP.O.lst []]) (g_app (l := [MP.O.lst []]) gT)
  replace gU := g_app (l := [MP.O.lst []]) (g_app (l := [MP.O.lst []]) gU)
  rw [l2]
  generalize ((S2 ++ [MP.O.lst []]) ++ [MP.O.lst []]) = S3 at g1 g2 fr0 ds0 gT gU ⊢
  generalize (S2.length : Nat) = t at g1 g2 le2 lT2 lU2 ⊢
  clear ds2 l2 fr2
  refine s_cons (s_for (i_rng (es_cons (e_var rfl (es_nil (rg_1 ⟨rg_ok (by omega), ?_⟩))))))
  refine for_rg (hC k) (fun i σ S' => ∃ (V W : Ps) (s6 s7 s8 : Option D), (V.map Prod.fst).Nodup ∧ (∀ x ∈ V, x.1 < i) ∧ (∀ x ∈ W, x.1 < i) ∧ V.length ≤ i ∧ W.length ≤ i ∧ DS S' a b ∧ Fr a S S' ∧ S'[S.length]? = some (.lst (T.map pD)) ∧ S'[S.length + 1]? = some (.lst (U.map pD)) ∧ S'[t]? = some (.lst (V.map pD)) ∧ S'[t + 1]? = some (.lst (W.map pD)) ∧ σ = [some (.ref a), some (.ref c), some (.int (nc : Nat)), some nm, some (.ref S.length), some (.ref (S.length + 1)), s6, s7, s8, some (.ref t), some (.ref (t + 1))]) ⟨[], [], _, _, _, List.nodup_nil, (fun _ z => nomatch z), (fun _ z => nomatch z), Nat.le_refl _, Nat.le_refl _, ds0, fr0, gT, gU, g1, g2, rfl⟩ (fun i σ S4 hi h => ?_) fun σ S4 h => ?_
  · clear g1 g2 fr0 ds0 gT gU
    obtain ⟨V, W, s6, s7, s8, nd, hV, hW, lV, lW, ds4, fr4, gT, gU, gV, gW, rfl⟩ := h
    dsimp only [List.set]
    refine s_cons (s_nm (e_call (es_cons (e_var rfl (es_cons (e_int (es_nil (draw_nat (by omega) ds4 (n := 6) (by decide) (by decide) rfl fun w S5 hw ds5 fr5 => ?_))))))))
    dsimp only [List.set]
    have fr5' := fr4.trans fr5
    replace gT := fr5.get (by omega) gT
    replace gU := fr5.get (by omega) gU
    replace gV := fr5.get (by omega) gV
    replace gW := fr5.get (by omega) gW
    refine s_mid (hC k) (fun σ S' => ∃ V : Ps, (V.map Prod.fst).Nodup ∧ (∀ x ∈ V, x.1 < i + 1) ∧ V.length ≤ i + 1 ∧ DS S' a b ∧ Fr a S S' ∧ S'[S.length]? = some (.lst (T.map pD)) ∧ S'[S.length + 1]? = some (.lst (U.map pD)) ∧ S'[t]? = some (.lst (V.map pD)) ∧ S'[t + 1]? = some (.lst (W.map pD)) ∧ σ = [some (.ref a), some (.ref c), some (.int (nc : Nat)), some nm, some (.ref S.length), some (.ref (S.length + 1)), some (.int (i : Nat)), some (.int (w : Nat)), s8, some (.ref t), some (.ref (t + 1))]) (s_iff (e_cmp (e_var rfl (e_tup (es_cons (e_int (es_cons (e_int (es_nil ⟨two_sz, c_int rfl rfl (t_bl (b_2 (fun hb => ?_) fun hb => s_nil ⟨V, nd, fun x hx => Nat.lt_succ_of_lt (hV x hx), by omega, ds5, fr5', gT, gU, gV, gW, rfl⟩))⟩))))))))) fun σ S6 h => ?_
    · have one : ∀ (v : Int) (S' : Sto), (∃ z : Nat, v = (z : Nat)) → DS S' a b → Fr a S5 S' → wpMeth .append (.ref t) [.tup [.int (i : Nat), .int (1 + v)]] S' fun _ S1 => wpSs (C k) .nil ⟨fun σ S' => ∃ V : Ps, (V.map Prod.fst).Nodup ∧ (∀ x ∈ V, x.1 < i + 1) ∧ V.length ≤ i + 1 ∧ DS S' a b ∧ Fr a S S' ∧ S'[S.length]? = some (.lst (T.map pD)) ∧ S'[S.length + 1]? = some (.lst (U.map pD)) ∧ S'[t]? = some (.lst (V.map pD)) ∧ S'[t + 1]? = some (.lst (W.map pD)) ∧ σ = [some (.ref a), some (.ref c), some (.int (nc : Nat)), some nm, some (.ref S.length), some (.ref (S.length + 1)), some (.int (i : Nat)), some (.int (w : Nat)), s8, some (.ref t), some (.ref (t + 1))], Q, fun _ _ => False, fun _ _ => False, fun x _ S' => E x S'⟩ [some (.ref a), some (.ref c), some (.int (nc : Nat)), some nm, some (.ref S.length), some (.ref (S.length + 1)), some (.int (i : Nat)), some (.int (w : Nat)), s8, some (.ref t), some (.ref (t + 1))] S1 := fun v S' hv ds' fr' => by
        obtain ⟨z, rfl⟩ := hv
        refine m_app (fr'.get (by omega) gV) (by rw [List.length_map, sizeLine_eq]; omega) (s_nil ⟨V ++ [(i, z + 1)], ?_, fun x hx => ?_, by rw [List.length_append]; simp; omega, ds'.setn (by omega) (by omega), (fr5'.trans fr').setn (by omega), g_setn (by omega) (fr'.get (by omega) gT), g_setn (by omega) (fr'.get (by omega) gU), ?_, g_setn (by omega) (fr'.get (by omega) gW), rfl⟩)
        · rw [List.map_append, List.nodup_append]
          refine ⟨nd, by simp, fun x hx y hy => ?_⟩
          obtain ⟨x', hx', rfl⟩ := List.mem_map.mp hx
          have := hV x' hx'
          simp at hy
          omega
        · rcases List.mem_append.mp hx with z | z
          · exact Nat.lt_succ_of_lt (hV x z)
          · rw [List.mem_singleton.mp z]; exact Nat.lt_succ_self i
        · rw [← pD_app, show (1 : Int) + (z : Nat) = ((z + 1 : Nat) : Int) by omega]
          exact g_set (fr'.get (by omega) gV)
      refine s_cons (s_ex (e_meth (e_var rfl ⟨r_lst ⟨by decide, by decide, by decide⟩ gV, es_cons (e_tup (es_cons (e_var rfl (es_cons (e_bin (e_int (e_ite (e_call (es_cons (e_var rfl (es_cons (e_int (es_nil (rare_is (by omega) (n := 5) (by decide) (by decide) ds5 rfl fun r S6 ds6 fr6 => t_bl ?_))))))))))))))⟩)))
      cases r with
      | true => exact k_t (e_int (b_add (es_nil ⟨two_sz, es_nil (one 1 S6 ⟨1, rfl⟩ ds6 fr6)⟩)))
      | false => exact k_f (e_int (b_add (es_nil ⟨two_sz, es_nil (one 0 S6 ⟨0, rfl⟩ ds6 fr6)⟩)))
    clear hV lV nd gV gT gU gW fr5'
    obtain ⟨V, nd, hV, lV, ds6, fr6, gT, gU, gV, gW, rfl⟩ := h
    refine s_cons (s_iff (e_cmp (e_var rfl (e_tup (es_cons (e_int (es_cons (e_int (es_nil ⟨two_sz, c_int rfl rfl (t_bl (b_2 (fun hb => ?_) fun hb => s_nil (s_nil ⟨V, W, _, _, _, nd, hV, fun x hx => Nat.lt_succ_of_lt (hW x hx), lV, by omega, ds6, fr6, gT, gU, gV, gW, rfl⟩)))⟩)))))))))
    refine s_cons (s_ex (e_meth (e_var rfl ⟨r_lst ⟨by decide, by decide, by decide⟩ gW, es_cons (e_tup (es_cons (e_var rfl (es_cons (e_int (es_nil ⟨two_sz, es_nil (m_app gW (by rw [List.length_map, sizeLine_eq]; omega) ?_)⟩))))))⟩)))
    refine s_nil (s_nil ⟨V, W ++ [(i, 1)], _, _, _, nd, hV, fun x hx => ?_, lV, by rw [List.length_append]; simp; omega, ds6.setn (by omega) (by omega), fr6.setn (by omega), g_setn (by omega) gT, g_setn (by omega) gU, g_setn (by omega) gV, ?_, rfl⟩)
    · rcases List.mem_append.mp hx with z | z
      · exact Nat.lt_succ_of_lt (hW x z)
      · rw [List.mem_singleton.mp z]; exact Nat.lt_succ_self i
    · rw [← pD_app]
      exact g_set gW
  · clear g1 g2 fr0 ds0 gT gU
    obtain ⟨V, W, s6, s7, s8, nd, hV, hW, lV, lW, ds4, fr4, gT, gU, gV, gW, rfl⟩ := h
    exact s_cons (s_ret (e_tup (es_cons (e_var rfl (es_cons (e_blt (es_cons (e_var rfl (es_nil (f_tupr gT (es_cons (e_blt (es_cons (e_var rfl (es_nil (f_tupr gU (es_cons (e_blt (es_cons (e_var rfl (es_nil (f_tupr gV (es_cons (e_blt (es_cons (e_var rfl (es_nil (f_tupr gW (es_nil ⟨(by show (5 : Nat) ≤ sizeLine; decide), q ⟨T, U, V, W⟩ S4 ⟨hT, hU, nd, hV, hW⟩ ds4 fr4⟩)))))))))))))))))))))))))))))
end
end K24
/-! K24G: law k24, nets drawn. -/
namespace K24
open PySem PySem.Spec PyProof.Rows L2 MP
local macro_rules | `(tactic| walk_at "look") => `(tactic| first | assumption | exact g_last | (with_reducible apply g_set; walk_at "look") | ((with_reducible refine g_setn ?h1 ?h2); (case h1 => first | assumption | omega | (apply Ne.symm; assumption)); (case h2 => walk_at "look")) | ((with_reducible refine g_app ?_); walk_at "look") | ((with_reducible refine' Fr.get ?h1 ?h2 ?h3); (case h1 => assumption); (case h2 => first | assumption | omega | (apply Ne.symm; assumption)); (case h3 => walk_at "look")) | ((with_reducible refine' Ch.get ?h1 ?h2 ?h3); (case h1 => assumption); (case h2 => first | assumption | (simp; done) | (simp only [List.mem_cons, List.not_mem_nil, or_false, not_or]; omega)); (case h3 => walk_at "look")))
local macro_rules | `(tactic| walk_at "kn") => `(tactic| first | assumption | omega | (simp; done) | decide)
local macro_rules | `(tactic| walk_at "sz") => `(tactic| first | assumption | (rw [sizeLine_eq]; first | omega | (simp; done) | (simp; omega)))
local macro_rules | `(tactic| walk_at "at") => `(tactic| first | exact rfl | assumption)
local macro_rules | `(tactic| walk_at "mp1") => `(tactic| first
  | with_reducible refine s_cons ?_ | with_reducible refine s_nil ?_ | with_reducible refine s_nm ?_ | with_reducible refine s_ix ?_ | with_reducible refine s_asg ?_ | with_reducible refine s_ex ?_ | with_reducible refine s_iff ?_ | with_reducible refine s_ret ?_ | with_reducible refine s_for ?_
  | ((with_reducible refine' e_var ?h1 ?_); (case h1 => exact rfl)) | with_reducible refine e_int ?_ | with_reducible refine e_bin ?_ | with_reducible refine e_cmp ?_ | with_reducible refine e_ix ?_ | with_reducible refine e_call ?_ | with_reducible refine e_blt ?_ | with_reducible refine e_bl ?_ | with_reducible refine e_and ?_ | with_reducible refine e_or ?_ | with_reducible refine e_not ?_ | with_reducible refine e_ite ?_
  | with_reducible refine es_cons ?_ | with_reducible refine es_nil ?_ | with_reducible refine e_tup ?_ | with_reducible refine e_lst ?_ | with_reducible refine e_meth ?_ | with_reducible refine e_comp ?_ | with_reducible refine e_sl ?_ | with_reducible refine e_neg ?_ | with_reducible refine e_isi ?_ | with_reducible refine e_lrg ?_ | with_reducible refine e_trg ?_ | with_reducible refine e_non ?_ | with_reducible refine e_str ?_ | with_reducible refine e_fnv ?_ | with_reducible refine e_orl ?_ | with_reducible refine e_dnew ?_ | with_reducible refine e_dget ?_ | with_reducible refine e_dget2 ?_
  | with_reducible refine o_no ?_ | with_reducible refine o_so ?_ | with_reducible refine i_rng ?_ | with_reducible refine i_seq ?_ | with_reducible refine i_enum ?_ | with_reducible refine i_rngD ?_ | with_reducible refine if_nil ?_ | with_reducible refine if_cons ?_ | with_reducible refine rg_1 ?_ | with_reducible refine rg_2 ?_
  | with_reducible refine b_add ?_ | with_reducible refine b_sub ?_ | ((with_reducible refine' b_mul ?h1 ?_); (case h1 => first | assumption | mul_fits)) | ((with_reducible refine' b_fdiv ?h1 ?h2 ?_); (case h1 => walk_at "kn"); (case h2 => first | assumption | decide)) | ((with_reducible refine' b_mod ?h1 ?_); (case h1 => walk_at "kn")) | ((with_reducible refine' b_pow ?h1 ?_); (case h1 => first | assumption | exact ⟨by decide, by decide, by decide⟩)) | ((with_reducible refine' b_shr ?h1 ?_); (case h1 => walk_at "kn")) | ((with_reducible refine' b_shl ?h1 ?_); (case h1 => assumption)) | with_reducible refine b_and ?_ | with_reducible refine b_or ?_ | with_reducible refine b_xor ?_
  | with_reducible refine c_lt ?_ | with_reducible refine c_le ?_ | with_reducible refine c_gt ?_ | with_reducible refine c_ge ?_ | with_reducible refine c_eqi ?_ | with_reducible refine c_nei ?_ | with_reducible refine c_eqb ?_ | with_reducible refine c_neb ?_ | with_reducible refine c_eqs ?_ | with_reducible refine c_nes ?_
  | with_reducible refine t_bl ?_ | with_reducible refine t_int ?_ | with_reducible refine t_tup ?_ | with_reducible refine t_non ?_
  | ((with_reducible refine' x_ref ?h1 ?h2 ?_); (case h1 => walk_at "look"); (case h2 => walk_at "at")) | ((with_reducible refine' x_tup ?h1 ?_); (case h1 => walk_at "at")) | ((with_reducible refine' x_klst ?h1 ?_); (case h1 => walk_at "at"))
  | ((with_reducible refine' set_ref ?h1 ?h2 ?_); (case h1 => walk_at "look"); (case h2 => walk_at "at"))
  | ((with_reducible refine' f_lenr ?h1 ?_); (case h1 => walk_at "look")) | with_reducible refine f_lent ?_ | with_reducible refine f_lenk ?_ | with_reducible refine f_int ?_ | ((with_reducible refine' f_listr ?h1 ?_); (case h1 => walk_at "look")) | with_reducible refine f_listt ?_ | with_reducible refine f_listk ?_ | ((with_reducible refine' f_tupr ?h1 ?_); (case h1 => walk_at "look")) | with_reducible refine f_tupt ?_ | with_reducible refine f_max ?_ | with_reducible refine f_min ?_
  | with_reducible refine sl_klst ?_ | ((with_reducible refine' sl_ref ?h1 ?_); (case h1 => walk_at "look")) | with_reducible refine sl_tup ?_
  | ((with_reducible refine' m_app ?h1 ?h2 ?_); (case h1 => walk_at "look"); (case h2 => walk_at "sz")) | ((with_reducible refine' m_ext ?h1 ?h2 ?h3 ?_); (case h1 => walk_at "look"); (case h2 => walk_at "look"); (case h3 => walk_at "sz")) | ((with_reducible refine' m_extT ?h1 ?h3 ?_); (case h1 => walk_at "look"); (case h3 => walk_at "sz"))
  | with_reducible refine k_t ?_ | with_reducible refine k_f ?_ | with_reducible refine k_nt ?_ | with_reducible refine k_nf ?_
  | ((with_reducible refine' d_t ?h1 ?_); (case h1 => first | assumption | omega)) | ((with_reducible refine' d_f ?h1 ?_); (case h1 => first | assumption | omega)) | ((with_reducible refine' d_nt ?h1 ?_); (case h1 => first | assumption | omega)) | ((with_reducible refine' d_nf ?h1 ?_); (case h1 => first | assumption | omega))
  | ((with_reducible refine' And.intro (r_lst ?h1 ?h2) ?_); (case h1 => decide); (case h2 => walk_at "look")) | (with_reducible refine And.intro r_int ?_)
  | ((with_reducible refine And.intro ?h1 ?_); (case h1 => (with_reducible show List.length _ ≤ sizeLine); walk_at "sz"))
  | dsimp only
  | dsimp only [isTy_int, isTy_bl, isTy_str, isTy_non, isTy_tup])
local macro_rules | `(tactic| walk_at "mp") => `(tactic| repeat walk_at "mp1")
local macro_rules | `(tactic| walk_at "tx1") => `(tactic| first
  | walk_at "mp1"
  | with_reducible refine e_cst ?_ | ((with_reducible refine' f_lens ?h1 ?_); (case h1 => walk_at "sz"))
  | ((with_reducible refine' x_str ?h1 ?h2 ?_); (case h1 => walk_at "sz"); (case h2 => walk_at "at"))
  | ((with_reducible refine' sl_str' ?h1 ?_); (case h1 => walk_at "sz")))
local macro_rules | `(tactic| walk_at "tx") => `(tactic| repeat walk_at "tx1")

/-- short texts -/
def shB (l : List D) : Bool := l.all fun x => match x with
  | .str s => decide (s.length ≤ 20)
  | _ => false
def Sh (l : List D) : Prop := ∀ x ∈ l, ∃ s : Str, x = .str s ∧ s.length ≤ 20
theorem sh_of {l : List D} (h : shB l = true) : Sh l := fun x hx => by
  have := List.all_eq_true.mp h x hx
  cases x with
  | str s => exact ⟨s, rfl, of_decide_eq_true this⟩
  | _ => cases this
def netD (N : Net) : D := .tup [N.vs, N.cs, .tup N.rD, tN N.start, tN N.counts, tN N.added]
/-- a variable: its name, its places -/
def kD (e : D × List D) : D := .tup [e.1, .tup e.2]
section
variable {k a b : Nat} {S : Sto} {Q : KD} {E : Ex → Sto → Prop}
theorem pool_ok (hk : 1 ≤ k) (q : ∀ l, Sh l → l.length = 40 → Q (.tup l) S) : C k f_law_pool [] S Q E := by
  obtain ⟨k, rfl⟩ := up hk
  refine c_law_pool ?_
  unfold b_law_pool
  walk_at "mp"
  exact q _ (sh_of (by decide +kernel)) rfl
theorem shuf_is (hk : 2 ≤ k) {row : D} {xs : List D} (ds : DS S a b) (hl : xs.length < 100000) (hr : row = .tup xs ∨ ∃ r, row = .ref r ∧ r ≠ a ∧ S[r]? = some (.lst xs)) (q : ∀ (ys : List D) (p : Nat) (S' : Sto), ys.Perm xs → DS S' a b → Fr a S S' → S.length ≤ p → S'[p]? = some (.lst ys) → Q (.ref p) S') : C k f_law_shuffled [.ref a, row] S Q E := by
  obtain ⟨k, rfl⟩ := up (n := 1) (by omega : 1 ≤ k)
  exact c_law_shuffled (shuf_ok (hC k) (draw_is (by omega)) ds hl hr q)
theorem hand_in {x : D} (h : x ∈ [D.str "one", D.str "two", D.str "two.1"]) : ∃ s : Str, x = .str s ∧ s.length ≤ 20 := by
  exact sh_of (l := [D.str "one", D.str "two", D.str "two.1"]) (by decide +kernel) x h
set_option maxHeartbeats 4000000 in
theorem parts_ok (hk : 7 ≤ k) (ds : DS S a b) (q : ∀ N nv nc S', NetOk nv nc N → N.rows.length ≤ 100 → DS S' a b → Fr a S S' → Q (netD N) S') : C k f_law_net_parts [.ref a, .int 4, .int 2, .int 6] S Q E := by
  obtain ⟨k, rfl⟩ := up (n := 1) (by omega : 1 ≤ k)
  have hk : 6 ≤ k := by omega
  refine c_law_net_parts ?_
  unfold b_law_net_parts
  have lta := ds.lta
  have ltb := ds.ltb
  refine s_cons (s_nm (e_call (es_cons (e_var rfl (es_cons (e_call (es_nil (pool_ok (by omega) fun l0 hl0 ln0 => es_nil (shuf_is (by omega) ds (by omega) (.inl rfl) fun nms p S1 pm ds1 fr1 hp gp => ?_)))))))))
  have hn : Sh nms := fun x hx => hl0 x (pm.mem_iff.mp hx)
  have ln : nms.length = 40 := pm.length_eq.trans ln0
  clear pm hl0 ln0 ds
  dsimp only [List.set]
  refine s_cons (s_nm (e_lst (es_nil ⟨by decide, ?_⟩)))
  dsimp only [List.set]
  have lp1 := g_lt gp
  have gr : (S1 ++ [MP.O.lst []])[S1.length]? = some (.lst (([] : List (D × List D)).map kD)) := g_last
  replace gp := g_app (l := [MP.O.lst []]) gp
  replace ds1 := ds1.app (l := [MP.O.lst []])
  replace fr1 := fr1.trans (Fr.app (l := [MP.O.lst []]))
  generalize S1 ++ [MP.O.lst []] = S2 at gr gp ds1 fr1 ⊢
  generalize (S1.length : Nat) = r at gr lp1 ⊢
  -- the variables
  refine s_mid (hC k) (fun σ S' => ∃ (Kn : List (D × List D)) (nms : List D) (s6 s7 : Option D), Kn.length ≤ 4 ∧ (∀ e ∈ Kn, 1 ≤ e.2.length ∧ e.2.length ≤ 40) ∧ Sh nms ∧ 36 ≤ nms.length ∧ DS S' a b ∧ Fr a S S' ∧ S'[p]? = some (.lst nms) ∧ S'[r]? = some (.lst (Kn.map kD)) ∧ σ = [some (.ref a), some (.int 4), some (.int 2), some (.int 6), some (.ref p), some (.ref r), s6, s7, none, none, none, none, none, none, none, none, none, none]) (s_for (i_rng (es_cons (e_bin (e_int (e_call (es_cons (e_var rfl (es_cons (e_var rfl (es_nil (draw_nat (by omega) ds1 (n := 4) (by decide) (by decide) rfl fun v S3 hv ds3 fr3 => b_add ?_)))))))))))) fun σ S3 h => ?_
  · rw [show (1 : Int) + (v : Nat) = ((v + 1 : Nat) : Int) by omega]
    refine es_nil (rg_1 ⟨rg_ok (by omega), ?_⟩)
    refine for_rg (hC k) (fun i σ S' => ∃ (Kn : List (D × List D)) (nms : List D) (s6 s7 : Option D), Kn.length = i ∧ (∀ e ∈ Kn, 1 ≤ e.2.length ∧ e.2.length ≤ 40) ∧ Sh nms ∧ nms.length + i = 40 ∧ DS S' a b ∧ Fr a S S' ∧ S'[p]? = some (.lst nms) ∧ S'[r]? = some (.lst (Kn.map kD)) ∧ σ = [some (.ref a), some (.int 4), some (.int 2), some (.int 6), some (.ref p), some (.ref r), s6, s7, none, none, none, none, none, none, none, none, none, none]) ⟨[], nms, _, _, rfl, (fun _ z => nomatch z), hn, ln, ds3, fr1.trans fr3, fr3.get (by omega) gp, fr3.get (by omega) gr, rfl⟩ (fun i σ S4 hi h => ?_) fun σ S4 h => ?_
    · clear gr gp ds1 fr1 hn ln ds3 fr3
      obtain ⟨Kn, nms, s6, s7, lK, hK, hn, ln, ds4, fr4, gp, gr, rfl⟩ := h
      dsimp only [List.set]
      refine s_mid (hC k) (fun σ S' => ∃ z : Nat, 1 ≤ z ∧ z ≤ 3 ∧ DS S' a b ∧ Fr a S4 S' ∧ σ = [some (.ref a), some (.int 4), some (.int 2), some (.int 6), some (.ref p), some (.ref r), some (.int (i : Nat)), some (.int (z : Nat)), none, none, none, none, none, none, none, none, none, none]) (s_nm (e_bin (e_int (e_ite (e_call (es_cons (e_var rfl (es_cons (e_int (es_nil (rare_is (by omega) (n := 3) (by decide) (by decide) ds4 rfl fun rr S5 ds5 fr5 => t_bl ?_))))))))))) fun σ S5 h => ?_
      · cases rr with
        | true => exact k_t (e_int (b_add ⟨3, by decide, by decide, ds5, fr5, rfl⟩))
        | false => exact k_f (e_int (b_add ⟨2, by decide, by decide, ds5, fr5, rfl⟩))
      obtain ⟨z, z1, z3, ds5, fr5, rfl⟩ := h
      replace gp := fr5.get (by omega) gp
      replace gr := fr5.get (by omega) gr
      have hlt : nms.length - 1 < nms.length := by omega
      refine s_cons (s_ex (e_meth (e_var rfl ⟨r_lst ⟨by decide, by decide, by decide⟩ gr, es_cons (e_tup (es_cons (e_meth (e_var rfl ⟨r_lst ⟨by decide, by decide, by decide⟩ gp, es_nil (m_pop gp (List.getElem?_eq_getElem hlt) (es_cons (e_blt (es_cons (e_comp (i_rng (es_cons (e_var rfl (es_nil (rg_1 ⟨rg_ok (by omega), by rw [rgD_len, sizeLine_eq]; omega, ?_⟩))))))))))⟩))))⟩)))
      have ds6 := ds5.setn (o := MP.O.lst nms.dropLast) (i := p) (by omega) (by omega)
      have fr6 := (fr4.trans fr5).setn (o := MP.O.lst nms.dropLast) (i := p) (by omega)
      have gp6 := g_set (o := MP.O.lst nms.dropLast) gp
      have gr6 := g_setn (o' := MP.O.lst nms.dropLast) (show p ≠ r by omega) gr
      generalize S5.set p (MP.O.lst nms.dropLast) = S6 at ds6 fr6 gp6 gr6 ⊢
      refine comp_inv (comp_mono (hC k)) (fun i acc S' => acc.length = i ∧ DS S' a b ∧ Fr a S6 S') ⟨rfl, ds6, Fr.refl⟩ (fun _ _ _ _ _ => gd_nil) (fun j x acc S7 hx h => ?_) fun acc S7 h => ?_
      · obtain ⟨la, ds7, fr7⟩ := h
        obtain ⟨hj, rfl⟩ := rgD_get hx
        exact cmp_nm (if_nil (k_t (e_bin (e_var rfl (e_bin (e_call (es_cons (e_var rfl (es_cons (e_int (es_nil (draw_nat (by omega) ds7 (n := 2) (by decide) (by decide) rfl fun v S8 hv ds8 fr8 => e_int (b_mul (mul_small (by omega) (by omega)) (b_add ⟨by rw [List.length_append, la]; rfl, ds8, fr7.trans fr8⟩))))))))))))))
      · obtain ⟨la, ds7, fr7⟩ := h
        rw [rgD_len] at la
        have gr7 := g_app (l := [MP.O.lst acc]) (fr7.get (by omega) gr6)
        refine es_nil (f_tupr g_last (es_nil ⟨two_sz, es_nil (m_app gr7 (by rw [List.length_map, sizeLine_eq]; omega) ?_)⟩))
        refine s_nil ⟨Kn ++ [(nms[nms.length - 1], acc)], nms.dropLast, _, _, by rw [List.length_append, lK]; rfl, fun e he => ?_, fun x hx => hn x ((List.dropLast_sublist _).mem hx), by rw [List.length_dropLast]; omega, (ds7.app).setn (by omega) (by omega), ((fr6.trans fr7).trans Fr.app).setn (by omega), g_setn (by omega) (g_app (fr7.get (by omega) gp6)), ?_, rfl⟩
        · rcases List.mem_append.mp he with h | h
          · exact hK e h
          · rw [List.mem_singleton.mp h]
            dsimp only
            omega
        · rw [List.map_append]
          exact g_set gr7
    · obtain ⟨Kn, nms, s6, s7, lK, hK, hn, ln, ds4, fr4, gp, gr, rfl⟩ := h
      exact ⟨Kn, nms, _, _, by omega, hK, hn, by omega, ds4, fr4, gp, gr, rfl⟩
  clear gr gp ds1 fr1 hn ln nms
  obtain ⟨Kn, nms, s6, s7, lK, hK, hn, ln, ds3, fr3, gp, gr, rfl⟩ := h
  -- the counters
  refine s_cons (s_nm (e_blt (es_cons (e_comp (i_rng (es_cons (e_call (es_cons (e_var rfl (es_cons (e_bin (e_var rfl (e_int (b_add (es_nil (draw_nat (by omega) ds3 (n := 3) (by decide) (by decide) rfl fun nc S4 hnc ds4 fr4 => es_nil (rg_1 ⟨rg_ok (by omega), by rw [rgD_len, sizeLine_eq]; omega, ?_⟩)))))))))))))))))
  refine comp_inv (comp_mono (hC k)) (fun i acc S' => ∃ nms, acc.length = i ∧ Sh nms ∧ nms.length + i ≥ 36 ∧ DS S' a b ∧ Fr a S S' ∧ S'[p]? = some (.lst nms) ∧ S'[r]? = some (.lst (Kn.map kD))) ⟨nms, rfl, hn, ln, ds4, fr3.trans fr4, fr4.get (by omega) gp, fr4.get (by omega) gr⟩ (fun _ _ _ _ _ => gd_nil) (fun j x acc S5 hx h => ?_) fun told S5 h => ?_
  · clear gp gr hn ln
    obtain ⟨nms, la, hn, ln, ds5, fr5, gp, gr⟩ := h
    obtain ⟨hj, rfl⟩ := rgD_get hx
    have hlt : nms.length - 1 < nms.length := by omega
    obtain ⟨y, hy, ly⟩ := hn _ (List.getElem_mem hlt)
    refine cmp_nm (if_nil (k_t (e_bin (e_meth (e_var rfl ⟨r_lst ⟨by decide, by decide, by decide⟩ gp, es_nil (m_pop gp (List.getElem?_eq_getElem hlt) ?_)⟩)))))
    rw [hy]
    refine e_str (b_adds ?_ ⟨nms.dropLast, by rw [List.length_append, la]; rfl, fun x hx => hn x ((List.dropLast_sublist _).mem hx), by rw [List.length_dropLast]; omega, ds5.setn (by omega) (by omega), fr5.setn (by omega), g_set gp, g_setn (by omega) gr⟩)
    have e : (".n" : Str).length = 2 := by decide +kernel
    rw [e, sizeLine_eq]
    omega
  clear gp gr hn ln
  obtain ⟨nms, la, hn, ln, ds5, fr5, gp, gr⟩ := h
  rw [rgD_len] at la
  refine es_nil (f_tupr g_last ?_)
  dsimp only [List.set]
  replace gr := g_app (l := [MP.O.lst told]) gr
  replace ds5 := ds5.app (l := [MP.O.lst told])
  replace fr5 := fr5.trans (Fr.app (l := [MP.O.lst told]))
  generalize S5 ++ [MP.O.lst told] = S6 at gr ds5 fr5 ⊢
  clear gp hn ln ds4 fr4 ds3 fr3
  -- the sizes
  refine s_cons (s_nm (e_comp (i_seq (e_var rfl ?_))))
  dsimp only
  rw [l_of gr]
  dsimp only
  refine ⟨by rw [List.length_map, sizeLine_eq]; omega, ?_⟩
  refine comp_map kD (fun e : D × List D => D.int (e.2.length : Nat)) (gd_one gr) (xs := Kn) (fun e he K hK => ?_) ?_
  · exact cmp_nm (if_nil (k_t (e_blt (es_cons (e_ix (e_var rfl (e_int (x_tup rfl (es_nil (f_lent hK))))))))))
  have esz : (Kn.map fun e : D × List D => D.int (e.2.length : Nat)) = nl (Kn.map fun e => e.2.length) := by unfold nl; rw [List.map_map]; rfl
  rw [esz]
  have lz : (Kn.map fun e => e.2.length).length = Kn.length := List.length_map ..
  have hz : ∀ v, v < (Kn.map fun e => e.2.length).length → 1 ≤ (Kn.map fun e => e.2.length).getD v 0 ∧ (Kn.map fun e => e.2.length).getD v 0 ≤ 40 := fun v hv => by
    rw [List.getD_eq_getElem?_getD, List.getElem?_eq_getElem hv, Option.getD_some, List.getElem_map]
    exact hK _ (List.getElem_mem _)
  generalize (Kn.map fun e => e.2.length) = sz at lz hz ⊢
  have lc : S6.length ≠ a := by have := fr5.le; omega
  have lcb : S6.length ≠ b := by have := fr5.le; omega
  have lc2 : S.length ≤ S6.length := fr5.le
  have gc : (S6 ++ [MP.O.lst (nl sz)])[S6.length]? = some (.lst (nl sz)) := g_last
  replace gr := g_app (l := [MP.O.lst (nl sz)]) gr
  replace ds5 := ds5.app (l := [MP.O.lst (nl sz)])
  replace fr5 := fr5.trans (Fr.app (l := [MP.O.lst (nl sz)]))
  dsimp only [List.set]
  generalize S6 ++ [MP.O.lst (nl sz)] = S7 at gc gr ds5 fr5 ⊢
  generalize (S6.length : Nat) = c at gc lc lcb lc2 ⊢
  -- the rows
  refine s_cons (s_nm (e_lst (es_nil ⟨by decide, ?_⟩)))
  dsimp only [List.set]
  have lt2 : S.length ≤ S7.length := fr5.le
  have lcm : c ≠ S7.length := by have := g_lt gc; omega
  have lrm : r ≠ S7.length := by have := g_lt gr; omega
  have gm : (S7 ++ [MP.O.lst []])[S7.length]? = some (.lst (([] : List (D × Row)).map fun x => rD x.1 x.2)) := g_last
  replace gc := g_app (l := [MP.O.lst []]) gc
  replace gr := g_app (l := [MP.O.lst []]) gr
  replace ds5 := ds5.app (l := [MP.O.lst []])
  replace fr5 := fr5.trans (Fr.app (l := [MP.O.lst []]))
  generalize S7 ++ [MP.O.lst []] = S8 at gc gr gm ds5 fr5 ⊢
  generalize (S7.length : Nat) = m at gm lt2 lcm lrm ⊢
  refine s_mid (hC k) (fun σ S' => ∃ (Rs : List (D × Row)) (s6 s11 : Option D), Rs.length ≤ 6 ∧ (∀ x ∈ Rs, RowOk sz.length nc x.2) ∧ DS S' a b ∧ Fr a S S' ∧ S'[r]? = some (.lst (Kn.map kD)) ∧ S'[c]? = some (.lst (nl sz)) ∧ S'[m]? = some (.lst (Rs.map fun x => rD x.1 x.2)) ∧ σ = [some (.ref a), some (.int 4), some (.int 2), some (.int 6), some (.ref p), some (.ref r), s6, s7, some (.tup told), some (.ref c), some (.ref m), s11, none, none, none, none, none, none]) (s_for (i_rng (es_cons (e_bin (e_int (e_call (es_cons (e_var rfl (es_cons (e_var rfl (es_nil (draw_nat (by omega) ds5 (n := 6) (by decide) (by decide) rfl fun v S9 hv ds9 fr9 => b_add ?_)))))))))))) fun σ S9 h => ?_
  · rw [show (1 : Int) + (v : Nat) = ((v + 1 : Nat) : Int) by omega]
    refine es_nil (rg_1 ⟨rg_ok (by omega), ?_⟩)
    refine for_rg (hC k) (fun i σ S' => ∃ (Rs : List (D × Row)) (s6 s11 : Option D), Rs.length = i ∧ (∀ x ∈ Rs, RowOk sz.length nc x.2) ∧ DS S' a b ∧ Fr a S S' ∧ S'[r]? = some (.lst (Kn.map kD)) ∧ S'[c]? = some (.lst (nl sz)) ∧ S'[m]? = some (.lst (Rs.map fun x => rD x.1 x.2)) ∧ σ = [some (.ref a), some (.int 4), some (.int 2), some (.int 6), some (.ref p), some (.ref r), s6, s7, some (.tup told), some (.ref c), some (.ref m), s11, none, none, none, none, none, none]) ⟨[], _, _, rfl, (fun _ z => nomatch z), ds9, fr5.trans fr9, fr9.get (by omega) gr, fr9.get (by omega) gc, fr9.get (by omega) gm, rfl⟩ (fun i σ S4 hi h => ?_) fun σ S4 h => ?_
    · clear gr gc gm ds5 fr5 ds9 fr9
      obtain ⟨Rs, s6, s11, lR, hR, ds4, fr4, gr, gc, gm, rfl⟩ := h
      dsimp only [List.set]
      refine s_cons (s_nm (e_call (es_cons (e_var rfl (es_cons (e_tup (es_cons (e_str (es_cons (e_str (es_cons (e_str (es_nil ⟨by decide, es_nil (pick_is (by omega) ds4 (by decide) (by decide) (.inl rfl) fun x S5 hx ds5 fr5 => ?_)⟩)))))))))))))
      obtain ⟨h, rfl, lh⟩ := hand_in hx
      dsimp only [List.set]
      replace gr := fr5.get (by omega) gr
      replace gc := fr5.get (by omega) gc
      replace gm := fr5.get (by omega) gm
      have lt := ts_len (n := i) (by omega)
      have e1 : ("/" : Str).length = 1 := by decide +kernel
      have e2 : ("/0" : Str).length = 2 := by decide +kernel
      refine s_cons (s_ex (e_meth (e_var rfl ⟨r_lst ⟨by decide, by decide, by decide⟩ gm, es_cons (e_call (es_cons (e_var rfl (es_cons (e_var rfl (es_cons (e_blt (es_cons (e_var rfl (es_nil (f_lent (es_cons (e_bin (e_bin (e_bin (e_var rfl (e_str (b_adds ?_ (e_blt (es_cons (e_var rfl (es_nil (f_ts (by omega) (b_adds ?_ (e_str (b_adds ?_ (es_nil ?_)))))))))))))))))))))))))))⟩)))
      · rw [e1, sizeLine_eq]; omega
      · rw [app_len, e1, sizeLine_eq]; omega
      · rw [app_len, app_len, e1, e2, sizeLine_eq]; omega
      rw [la]
      refine row_ok (by omega) ds5 lc gc (by omega) hz (by omega) fun rw_ S6 hrw ds6 fr6 => ?_
      have gm6 := fr6.get (by omega) gm
      refine es_nil (m_app gm6 (by rw [List.length_map, sizeLine_eq]; omega) (s_nil ⟨Rs ++ [(D.str (h ++ ("/" : Str) ++ ts i ++ ("/0" : Str)), rw_)], _, _, by rw [List.length_append, lR]; rfl, fun x hx => ?_, ds6.setn (by omega) (by omega), ((fr4.trans fr5).trans fr6).setn (by omega), g_setn (Ne.symm lrm) (fr6.get (by omega) gr), g_setn (Ne.symm lcm) (fr6.get lc gc), ?_, rfl⟩))
      · rcases List.mem_append.mp hx with h | h
        · exact hR x h
        · rw [List.mem_singleton.mp h]
          exact hrw
      · rw [List.map_append]
        exact g_set gm6
    · obtain ⟨Rs, s6, s11, lR, hR, ds4, fr4, gr, gc, gm, rfl⟩ := h
      exact ⟨Rs, _, _, by omega, hR, ds4, fr4, gr, gc, gm, rfl⟩
  clear gr gc gm ds5 fr5
  obtain ⟨Rs, s6, s11, lR, hR, ds9, fr9, gr, gc, gm, rfl⟩ := h
  -- where it starts
  refine s_cons (s_nm (e_blt (es_cons (e_orl (e_comp (i_seq (e_var rfl ?_)))))))
  dsimp only
  rw [l_of gc]
  dsimp only
  refine ⟨by rw [nl_len, sizeLine_eq]; omega, ?_⟩
  refine comp_dr (c := C k) S9 (fun S' fr => gd_one (fr.get lc gc)) (fun _ _ => True) ds9 Fr.refl (fun i x S' K hx ds' fr' hK => ?_) fun st S10 ls _ ds10 fr10 => ?_
  · obtain ⟨p, hp, rfl⟩ := nl_get hx
    have hi := (List.getElem?_eq_some_iff.mp hp).1
    have := hz i hi
    rw [show sz.getD i 0 = p by rw [List.getD_eq_getElem?_getD, hp]; rfl] at this
    exact cmp_nm (if_nil (k_t (e_call (es_cons (e_var rfl (es_cons (e_var rfl (es_nil (draw_nat (by omega) ds' (n := p) (by omega) (by omega) rfl fun v S'' hv ds'' fr'' => hK v S'' trivial ds'' fr'')))))))))
  rw [nl_len] at ls
  refine es_nil (f_tupr g_last ?_)
  dsimp only [List.set]
  replace gr := g_app (l := [MP.O.lst (nl st)]) (fr10.get (by omega) gr)
  replace gm := g_app (l := [MP.O.lst (nl st)]) (fr10.get (by omega) gm)
  replace ds10 := ds10.app (l := [MP.O.lst (nl st)])
  replace fr10 := (fr9.trans fr10).trans (Fr.app (l := [MP.O.lst (nl st)]))
  generalize S10 ++ [MP.O.lst (nl st)] = S11 at gr gm ds10 fr10 ⊢
  -- the counts
  refine s_cons (s_nm (e_blt (es_cons (e_orl (e_comp (i_seq (e_var rfl ?_)))))))
  dsimp only
  refine ⟨by rw [la, sizeLine_eq]; omega, ?_⟩
  refine comp_dr (c := C k) S11 (fun S' fr => gd_nil) (fun _ _ => True) ds10 Fr.refl (fun i x S' K hx ds' fr' hK => ?_) fun cs S12 lcs _ ds12 fr12 => ?_
  · exact cmp_nm (if_nil (k_t (e_call (es_cons (e_var rfl (es_cons (e_int (es_nil (draw_nat (by omega) ds' (n := 3) (by omega) (by omega) rfl fun v S'' hv ds'' fr'' => hK v S'' trivial ds'' fr'')))))))))
  rw [la] at lcs
  refine es_nil (f_tupr g_last ?_)
  dsimp only [List.set]
  replace gr := g_app (l := [MP.O.lst (nl cs)]) (fr12.get (by omega) gr)
  replace gm := g_app (l := [MP.O.lst (nl cs)]) (fr12.get (by omega) gm)
  replace ds12 := ds12.app (l := [MP.O.lst (nl cs)])
  replace fr12 := (fr10.trans fr12).trans (Fr.app (l := [MP.O.lst (nl cs)]))
  generalize S12 ++ [MP.O.lst (nl cs)] = S13 at gr gm ds12 fr12 ⊢
  -- what is added
  refine s_cons (s_nm (e_blt (es_cons (e_comp (i_rng (es_cons (e_blt (es_cons (e_var rfl (es_nil (f_lent (es_nil (rg_1 ⟨?_, ?_⟩)))))))))))))
  · rw [la]
    exact rg_ok (by omega)
  rw [la]
  refine ⟨by rw [rgD_len, sizeLine_eq]; omega, ?_⟩
  refine comp_inv (comp_mono (hC k)) (fun i acc S' => ∃ A : List Nat, acc = nl A ∧ (∀ x ∈ A, x < i) ∧ A.length ≤ i ∧ DS S' a b ∧ Fr a S13 S') ⟨[], rfl, (fun _ z => nomatch z), Nat.le_refl _, ds12, Fr.refl⟩ (fun _ _ _ _ _ => gd_nil) (fun j x acc S14 hx h => ?_) fun acc S14 h => ?_
  · obtain ⟨A, rfl, hA, lA, ds14, fr14⟩ := h
    obtain ⟨hj, rfl⟩ := rgD_get hx
    refine cmp_nm (if_cons (e_cmp (e_call (es_cons (e_var rfl (es_cons (e_int (es_nil (draw_nat (by omega) ds14 (n := 2) (by decide) (by decide) rfl fun v S15 hv ds15 fr15 => e_int (c_eqi (t_bl (d_2 (fun he => ?_) fun he => ?_))))))))))))
    · refine if_nil (k_t (e_var rfl ⟨A ++ [j], ?_, fun x hx => ?_, by rw [List.length_append]; simp; omega, ds15, fr14.trans fr15⟩))
      · unfold nl
        rw [List.map_append]
        rfl
      · rcases List.mem_append.mp hx with h | h
        · exact Nat.lt_succ_of_lt (hA x h)
        · rw [List.mem_singleton.mp h]; exact Nat.lt_succ_self j
    · exact k_f ⟨A, rfl, fun x hx => Nat.lt_succ_of_lt (hA x hx), by omega, ds15, fr14.trans fr15⟩
  obtain ⟨A, rfl, hA, lA, ds14, fr14⟩ := h
  rw [rgD_len] at hA lA
  refine es_nil (f_tupr g_last ?_)
  dsimp only [List.set]
  replace gr := g_app (l := [MP.O.lst (nl A)]) (fr14.get (by omega) gr)
  replace gm := g_app (l := [MP.O.lst (nl A)]) (fr14.get (by omega) gm)
  replace ds14 := ds14.app (l := [MP.O.lst (nl A)])
  replace fr14 := (fr12.trans fr14).trans (Fr.app (l := [MP.O.lst (nl A)]))
  generalize S14 ++ [MP.O.lst (nl A)] = S15 at gr gm ds14 fr14 ⊢
  exact s_cons (s_ret (e_tup (es_cons (e_blt (es_cons (e_var rfl (es_nil (f_tupr gr (es_cons (e_var rfl (es_cons (e_blt (es_cons (e_var rfl (es_nil (f_tupr gm (es_cons (e_var rfl (es_cons (e_var rfl (es_cons (e_var rfl (es_nil ⟨(by show (6 : Nat) ≤ sizeLine; decide), q ⟨.tup (Kn.map kD), .tup told, Rs, st, cs, A⟩ sz.length nc S15 ⟨ls, lcs, hA, hR, (by dsimp only; omega), (by dsimp only; omega)⟩ (by dsimp only; omega) ds14 fr14⟩)))))))))))))))))))))))
end
end K24
/-! K24H: law k24, rings drawn. -/
namespace K24
open PySem PySem.Spec PyProof.Rows L2 MP
local macro_rules | `(tactic| walk_at "look") => `(tactic| first | assumption | exact g_last | (with_reducible apply g_set; walk_at "look") | ((with_reducible refine g_setn ?h1 ?h2); (case h1 => first | assumption | omega | (apply Ne.symm; assumption)); (case h2 => walk_at "look")) | ((with_reducible refine g_app ?_); walk_at "look") | ((with_reducible refine' Fr.get ?h1 ?h2 ?h3); (case h1 => assumption); (case h2 => first | assumption | omega | (apply Ne.symm; assumption)); (case h3 => walk_at "look")) | ((with_reducible refine' Ch.get ?h1 ?h2 ?h3); (case h1 => assumption); (case h2 => first | assumption | (simp; done) | (simp only [List.mem_cons, List.not_mem_nil, or_false, not_or]; omega)); (case h3 => walk_at "look")))
local macro_rules | `(tactic| walk_at "kn") => `(tactic| first | assumption | omega | (simp; done) | decide)
local macro_rules | `(tactic| walk_at "sz") => `(tactic| first | assumption | (rw [sizeLine_eq]; first | omega | (simp; done) | (simp; omega)))
local macro_rules | `(tactic| walk_at "at") => `(tactic| first | exact rfl | assumption)
local macro_rules | `(tactic| walk_at "mp1") => `(tactic| first
  | with_reducible refine s_cons ?_ | with_reducible refine s_nil ?_ | with_reducible refine s_nm ?_ | with_reducible refine s_ix ?_ | with_reducible refine s_asg ?_ | with_reducible refine s_ex ?_ | with_reducible refine s_iff ?_ | with_reducible refine s_ret ?_ | with_reducible refine s_for ?_
  | ((with_reducible refine' e_var ?h1 ?_); (case h1 => exact rfl)) | with_reducible refine e_int ?_ | with_reducible refine e_bin ?_ | with_reducible refine e_cmp ?_ | with_reducible refine e_ix ?_ | with_reducible refine e_call ?_ | with_reducible refine e_blt ?_ | with_reducible refine e_bl ?_ | with_reducible refine e_and ?_ | with_reducible refine e_or ?_ | with_reducible refine e_not ?_ | with_reducible refine e_ite ?_
  | with_reducible refine es_cons ?_ | with_reducible refine es_nil ?_ | with_reducible refine e_tup ?_ | with_reducible refine e_lst ?_ | with_reducible refine e_meth ?_ | with_reducible refine e_comp ?_ | with_reducible refine e_sl ?_ | with_reducible refine e_neg ?_ | with_reducible refine e_isi ?_ | with_reducible refine e_lrg ?_ | with_reducible refine e_trg ?_ | with_reducible refine e_non ?_ | with_reducible refine e_str ?_ | with_reducible refine e_fnv ?_ | with_reducible refine e_orl ?_ | with_reducible refine e_dnew ?_ | with_reducible refine e_dget ?_ | with_reducible refine e_dget2 ?_
  | with_reducible refine o_no ?_ | with_reducible refine o_so ?_ | with_reducible refine i_rng ?_ | with_reducible refine i_seq ?_ | with_reducible refine i_enum ?_ | with_reducible refine i_rngD ?_ | with_reducible refine if_nil ?_ | with_reducible refine if_cons ?_ | with_reducible refine rg_1 ?_ | with_reducible refine rg_2 ?_
  | with_reducible refine b_add ?_ | with_reducible refine b_sub ?_ | ((with_reducible refine' b_mul ?h1 ?_); (case h1 => first | assumption | mul_fits)) | ((with_reducible refine' b_fdiv ?h1 ?h2 ?_); (case h1 => walk_at "kn"); (case h2 => first | assumption | decide)) | ((with_reducible refine' b_mod ?h1 ?_); (case h1 => walk_at "kn")) | ((with_reducible refine' b_pow ?h1 ?_); (case h1 => first | assumption | exact ⟨by decide, by decide, by decide⟩)) | ((with_reducible refine' b_shr ?h1 ?_); (case h1 => walk_at "kn")) | ((with_reducible refine' b_shl ?h1 ?_); (case h1 => assumption)) | with_reducible refine b_and ?_ | with_reducible refine b_or ?_ | with_reducible refine b_xor ?_
  | with_reducible refine c_lt ?_ | with_reducible refine c_le ?_ | with_reducible refine c_gt ?_ | with_reducible refine c_ge ?_ | with_reducible refine c_eqi ?_ | with_reducible refine c_nei ?_ | with_reducible refine c_eqb ?_ | with_reducible refine c_neb ?_ | with_reducible refine c_eqs ?_ | with_reducible refine c_nes ?_
  | with_reducible refine t_bl ?_ | with_reducible refine t_int ?_ | with_reducible refine t_tup ?_ | with_reducible refine t_non ?_
  | ((with_reducible refine' x_ref ?h1 ?h2 ?_); (case h1 => walk_at "look"); (case h2 => walk_at "at")) | ((with_reducible refine' x_tup ?h1 ?_); (case h1 => walk_at "at")) | ((with_reducible refine' x_klst ?h1 ?_); (case h1 => walk_at "at"))
  | ((with_reducible refine' set_ref ?h1 ?h2 ?_); (case h1 => walk_at "look"); (case h2 => walk_at "at"))
  | ((with_reducible refine' f_lenr ?h1 ?_); (case h1 => walk_at "look")) | with_reducible refine f_lent ?_ | with_reducible refine f_lenk ?_ | with_reducible refine f_int ?_ | ((with_reducible refine' f_listr ?h1 ?_); (case h1 => walk_at "look")) | with_reducible refine f_listt ?_ | with_reducible refine f_listk ?_ | ((with_reducible refine' f_tupr ?h1 ?_); (case h1 => walk_at "look")) | with_reducible refine f_tupt ?_ | with_reducible refine f_max ?_ | with_reducible refine f_min ?_
  | with_reducible refine sl_klst ?_ | ((with_reducible refine' sl_ref ?h1 ?_); (case h1 => walk_at "look")) | with_reducible refine sl_tup ?_
  | ((with_reducible refine' m_app ?h1 ?h2 ?_); (case h1 => walk_at "look"); (case h2 => walk_at "sz")) | ((with_reducible refine' m_ext ?h1 ?h2 ?h3 ?_); (case h1 => walk_at "look"); (case h2 => walk_at "look"); (case h3 => walk_at "sz")) | ((with_reducible refine' m_extT ?h1 ?h3 ?_); (case h1 => walk_at "look"); (case h3 => walk_at "sz"))
  | with_reducible refine k_t ?_ | with_reducible refine k_f ?_ | with_reducible refine k_nt ?_ | with_reducible refine k_nf ?_
  | ((with_reducible refine' d_t ?h1 ?_); (case h1 => first | assumption | omega)) | ((with_reducible refine' d_f ?h1 ?_); (case h1 => first | assumption | omega)) | ((with_reducible refine' d_nt ?h1 ?_); (case h1 => first | assumption | omega)) | ((with_reducible refine' d_nf ?h1 ?_); (case h1 => first | assumption | omega))
  | ((with_reducible refine' And.intro (r_lst ?h1 ?h2) ?_); (case h1 => decide); (case h2 => walk_at "look")) | (with_reducible refine And.intro r_int ?_)
  | ((with_reducible refine And.intro ?h1 ?_); (case h1 => (with_reducible show List.length _ ≤ sizeLine); walk_at "sz"))
  | dsimp only
  | dsimp only [isTy_int, isTy_bl, isTy_str, isTy_non, isTy_tup])
local macro_rules | `(tactic| walk_at "mp") => `(tactic| repeat walk_at "mp1")
local macro_rules | `(tactic| walk_at "tx1") => `(tactic| first
  | walk_at "mp1"
  | with_reducible refine e_cst ?_ | ((with_reducible refine' f_lens ?h1 ?_); (case h1 => walk_at "sz"))
  | ((with_reducible refine' x_str ?h1 ?h2 ?_); (case h1 => walk_at "sz"); (case h2 => walk_at "at"))
  | ((with_reducible refine' sl_str' ?h1 ?_); (case h1 => walk_at "sz")))
local macro_rules | `(tactic| walk_at "tx") => `(tactic| repeat walk_at "tx1")

def pdP (x : Nat × Nat) : PyData := .tuple [.int (x.1 : Nat), .int (x.2 : Nat)]
theorem pd_P (S : Sto) (x : Nat × Nat) : Pd S (pD x) (pdP x) := .tup (.cons (.int _) (.cons (.int _) .nil))
def leP (x y : Nat × Nat) : Bool := PySem.W.dataLe false Prod.snd ((pD x, pdP x) : D × PyData) (pD y, pdP y)
/-- a row without its name -/
def r4 (r : Row) : D := .tup [psD r.t, psD r.s, psD r.k, psD r.p]
section
variable {k a b : Nat} {S : Sto} {Q : KD} {E : Ex → Sto → Prop}
theorem srt_ok {r : Nat} {T : Ps} (g : S[r]? = some (.lst (T.map pD))) (q : ∀ T' : Ps, T'.Perm T → Q (.ref S.length) (S ++ [.lst (T'.map pD)])) : wpBlt .sorted [.ref r] S Q := by
  have e : ((T.map fun x => (pD x, pdP x)).mergeSort (PySem.W.dataLe false Prod.snd)) = (T.mergeSort leP).map fun x => (pD x, pdP x) :=
    (List.map_mergeSort (r := leP) (s := PySem.W.dataLe false Prod.snd) (f := fun x => (pD x, pdP x)) (l := T) (fun x hx y hy => rfl)).symm
  refine f_srt (zs := T.map fun x => (pD x, pdP x)) (by rw [List.map_map]; exact g) (fun z hz => ?_) (fun d hd d' hd' => ?_) (.inl fun d hd => ?_) (fun z hz => ?_) ?_
  · obtain ⟨r, _, rfl⟩ := List.mem_map.mp hz
    exact pd_P S r
  · rw [List.map_map] at hd hd'
    obtain ⟨r, _, rfl⟩ := List.mem_map.mp hd
    obtain ⟨t, _, rfl⟩ := List.mem_map.mp hd'
    simp [pdP, PySem.W.alike, PySem.W.alikeAll]
  · rw [List.map_map] at hd
    obtain ⟨r, hr, rfl⟩ := List.mem_map.mp hd
    exact ⟨_, _, rfl⟩
  · obtain ⟨r, _, rfl⟩ := List.mem_map.mp hz
    simp [pdP, PyData.depth, PyData.depthAll]
  · rw [e, List.map_map]
    exact q _ (List.mergeSort_perm T leP)
theorem modn (i n : Nat) : ((i : Int) % (n : Nat)) = ((i % n : Nat) : Int) := by rw [Int.natCast_emod]
set_option maxHeartbeats 4000000 in
theorem rings_ok (hk : 7 ≤ k) (ds : DS S a b) (q : ∀ N nv nc S', NetOk nv nc N → N.rows.length ≤ 100 → DS S' a b → Fr a S S' → Q (netD N) S') : C k f_law_ring_parts [.ref a] S Q E := by
  obtain ⟨k, rfl⟩ := up (n := 1) (by omega : 1 ≤ k)
  have hk : 6 ≤ k := by omega
  refine c_law_ring_parts ?_
  unfold b_law_ring_parts
  have lta := ds.lta
  have ltb := ds.ltb
  -- the sizes
  refine s_cons (s_nm (e_comp (i_rng (es_cons (e_bin (e_int (e_call (es_cons (e_var rfl (es_cons (e_int (es_nil (draw_nat (by omega) ds (n := 2) (by decide) (by decide) rfl fun v S1 hv ds1 fr1 => b_add ?_)))))))))))))
  rw [show (2 : Int) + (v : Nat) = ((v + 2 : Nat) : Int) by omega]
  refine es_nil (rg_1 ⟨rg_ok (by omega), by rw [rgD_len, sizeLine_eq]; omega, ?_⟩)
  refine comp_dr (c := C k) S1 (fun S' fr => gd_nil) (fun _ v => 2 ≤ v ∧ v ≤ 4) ds1 Fr.refl (fun i x S' K hx ds' fr' hK => ?_) fun sz S2 lz hz ds2 fr2 => ?_
  · refine cmp_nm (if_nil (k_t (e_bin (e_int (e_call (es_cons (e_var rfl (es_cons (e_int (es_nil (draw_nat (by omega) ds' (n := 3) (by decide) (by decide) rfl fun w S'' hw ds'' fr'' => b_add ?_)))))))))))
    rw [show (2 : Int) + (w : Nat) = ((w + 2 : Nat) : Int) by omega]
    exact hK _ S'' ⟨by omega, by omega⟩ ds'' fr''
  rw [rgD_len] at lz hz
  rw [← lz] at hz
  have lz3 : sz.length ≤ 3 := by omega
  have lz1 : 1 ≤ sz.length := by omega
  dsimp only [List.set]
  have le2 : S.length ≤ S2.length := (fr1.trans fr2).le
  have gc : (S2 ++ [MP.O.lst (nl sz)])[S2.length]? = some (.lst (nl sz)) := g_last
  replace ds2 := ds2.app (l := [MP.O.lst (nl sz)])
  replace fr2 := (fr1.trans fr2).trans (Fr.app (l := [MP.O.lst (nl sz)]))
  generalize S2 ++ [MP.O.lst (nl sz)] = S3 at gc ds2 fr2 ⊢
  generalize (S2.length : Nat) = c at gc le2 ⊢
  clear ds1 fr1 lz
  refine s_cons (s_nm (e_call (es_cons (e_var rfl (es_cons (e_int (es_nil (draw_nat (by omega) ds2 (n := 2) (by decide) (by decide) rfl fun nc S4 hnc ds4 fr4 => ?_))))))))
  dsimp only [List.set]
  replace gc := fr4.get (by omega) gc
  replace fr4 := fr2.trans fr4
  clear ds2 fr2
  refine s_cons (s_nm (e_lst (es_nil ⟨by decide, ?_⟩)))
  dsimp only [List.set]
  have lcm := g_lt gc
  have gm : (S4 ++ [MP.O.lst []])[S4.length]? = some (.lst (([] : List Row).map r4)) := g_last
  replace gc := g_app (l := [MP.O.lst []]) gc
  have lm : S.length ≤ S4.length := fr4.le
  replace ds4 := ds4.app (l := [MP.O.lst []])
  replace fr4 := fr4.trans (Fr.app (l := [MP.O.lst []]))
  generalize S4 ++ [MP.O.lst []] = S5 at gc gm ds4 fr4 ⊢
  generalize (S4.length : Nat) = m at gm lcm lm ⊢
  -- the rows
  refine s_mid (hC k) (fun σ S' => ∃ (Rs : List Row) (s4 s5 s6 s7 s8 s9 s10 : Option D), Rs.length ≤ 12 ∧ (∀ x ∈ Rs, RowOk sz.length nc x) ∧ DS S' a b ∧ Fr a S S' ∧ S'[c]? = some (.lst (nl sz)) ∧ S'[m]? = some (.lst (Rs.map r4)) ∧ σ = [some (.ref a), some (.ref c), some (.int (nc : Nat)), some (.ref m), s4, s5, s6, s7, s8, s9, s10, none, none, none, none, none, none]) (s_for (i_rng (es_cons (e_blt (es_cons (e_var rfl (es_nil (f_lenr gc (es_nil (rg_1 ⟨by rw [nl_len]; exact rg_ok (by omega), ?_⟩)))))))))) fun σ S6 h => ?_
  · rw [nl_len]
    refine for_rg (hC k) (fun i σ S' => ∃ (Rs : List Row) (s4 s5 s6 s7 s8 s9 s10 : Option D), Rs.length ≤ 4 * i ∧ (∀ x ∈ Rs, RowOk sz.length nc x) ∧ DS S' a b ∧ Fr a S S' ∧ S'[c]? = some (.lst (nl sz)) ∧ S'[m]? = some (.lst (Rs.map r4)) ∧ σ = [some (.ref a), some (.ref c), some (.int (nc : Nat)), some (.ref m), s4, s5, s6, s7, s8, s9, s10, none, none, none, none, none, none]) ⟨[], _, _, _, _, _, _, _, Nat.le_refl _, (fun _ z => nomatch z), ds4, fr4, gc, gm, rfl⟩ (fun i σ S6 hi h => ?_) fun σ S6 h => ?_
    · clear gc gm ds4 fr4
      obtain ⟨Rs, s4, s5, s6, s7, s8, s9, s10, lR, hR, ds6, fr6, gc, gm, rfl⟩ := h
      have hzi := hz i hi
      dsimp only [List.set]
      refine s_cons (s_for (i_rng (es_cons (e_ix (e_var rfl (e_var rfl (x_rl gc hi (es_nil (rg_1 ⟨rg_ok (by omega), ?_⟩)))))))))
      refine for_rg (hC k) (fun j σ S' => ∃ (R2 : List Row) (s5 s6 s7 s8 s9 s10 : Option D), R2.length = Rs.length + j ∧ (∀ x ∈ R2, RowOk sz.length nc x) ∧ DS S' a b ∧ Fr a S S' ∧ S'[c]? = some (.lst (nl sz)) ∧ S'[m]? = some (.lst (R2.map r4)) ∧ σ = [some (.ref a), some (.ref c), some (.int (nc : Nat)), some (.ref m), some (.int (i : Nat)), s5, s6, s7, s8, s9, s10, none, none, none, none, none, none]) ⟨Rs, _, _, _, _, _, _, rfl, hR, ds6, fr6, gc, gm, rfl⟩ (fun j σ S7 hj h => ?_) fun σ S7 h => ?_
      · clear gc gm ds6 fr6 s5 s6 s7 s8 s9 s10
        obtain ⟨R2, s5, s6, s7, s8, s9, s10, lR2, hR2, ds7, fr7, gc, gm, rfl⟩ := h
        dsimp only [List.set]
        refine s_cons (s_nm (e_lst (es_cons (e_tup (es_cons (e_var rfl (es_cons (e_bin (e_int (e_var rfl (b_shl (shl1 (by omega)) (es_nil ⟨two_sz, es_nil ⟨one_sz, ?_⟩⟩))))))))))))
        rw [one_shl]
        dsimp only [List.set]
        have lt7 := fr7.le
        have gt : (S7 ++ [MP.O.lst [.tup [.int (i : Nat), .int (2 ^ j : Nat)]]])[S7.length]? = some (.lst ([(i, 2 ^ j)].map pD)) := g_last
        have lmt := g_lt gm
        have lct := g_lt gc
        replace gc := g_app (l := [MP.O.lst [.tup [.int (i : Nat), .int (2 ^ j : Nat)]]]) gc
        replace gm := g_app (l := [MP.O.lst [.tup [.int (i : Nat), .int (2 ^ j : Nat)]]]) gm
        replace ds7 := ds7.app (l := [MP.O.lst [.tup [.int (i : Nat), .int (2 ^ j : Nat)]]])
        replace fr7 := fr7.trans (Fr.app (l := [MP.O.lst [.tup [.int (i : Nat), .int (2 ^ j : Nat)]]]))
        generalize S7 ++ [MP.O.lst [.tup [.int (i : Nat), .int (2 ^ j : Nat)]]] = S8 at gc gm gt ds7 fr7 ⊢
        generalize (S7.length : Nat) = t at gt lt7 lmt lct ⊢
        refine s_cons (s_nm (e_call (es_cons (e_var rfl (es_cons (e_blt (es_cons (e_var rfl (es_nil (f_lenr gc (es_nil (draw_nat (by omega) ds7 (n := sz.length) (by omega) (by omega) (by rw [nl_len]) fun o S9 ho ds9 fr9 => ?_))))))))))))
        replace gc := fr9.get (by omega) gc
        replace gm := fr9.get (by omega) gm
        replace gt := fr9.get (by omega) gt
        replace fr9 := fr7.trans fr9
        clear ds7 fr7
        dsimp only [List.set]
        have hzo := hz o ho
        refine s_cons (s_nm (e_call (es_cons (e_var rfl (es_cons (e_ix (e_var rfl (e_var rfl (x_rl gc ho (es_nil (mask_ok (by omega) ds9 (by omega) (by omega) fun mk S10 ds10 fr10 => ?_)))))))))))
        replace gc := fr10.get (by omega) gc
        replace gm := fr10.get (by omega) gm
        replace gt := fr10.get (by omega) gt
        replace fr10 := fr9.trans fr10
        clear ds9 fr9
        dsimp only [List.set]
        refine s_mid (hC k) (fun σ S' => ∃ (T : Ps) (t2 : Nat), (∀ x ∈ T, x.1 < sz.length) ∧ S.length ≤ t2 ∧ DS S' a b ∧ Fr a S S' ∧ S'[c]? = some (.lst (nl sz)) ∧ S'[m]? = some (.lst (R2.map r4)) ∧ S'[t2]? = some (.lst (T.map pD)) ∧ m < t2 ∧ σ = [some (.ref a), some (.ref c), some (.int (nc : Nat)), some (.ref m), some (.int (i : Nat)), some (.int (j : Nat)), some (.ref t2), some (.int (o : Nat)), some (.int (mk : Nat)), s9, s10, none, none, none, none, none, none]) (s_iff (e_and (e_cmp (e_var rfl (e_var rfl (c_nei (t_bl (d_n2 (fun h1 => ?_) fun h1 => ?_)))))))) fun σ S11 h => ?_
        · refine e_and (e_cmp (e_var rfl (e_call (es_cons (e_ix (e_var rfl (e_var rfl (x_rl gc ho (es_nil (lfull_ok (by omega) (by omega) (c_nei (t_bl (d_n2 (fun h2 => ?_) fun h2 => ?_)))))))))))))
          · refine e_cmp (e_call (es_cons (e_var rfl (es_cons (e_int (es_nil (draw_nat (by omega) ds10 (n := 3) (by decide) (by decide) rfl fun w S11 hw ds11 fr11 => e_int (c_eqi (t_bl (d_2 (fun h3 => ?_) fun h3 => ?_))))))))))
            · replace gc := fr11.get (by omega) gc
              replace gm := fr11.get (by omega) gm
              replace gt := fr11.get (by omega) gt
              replace fr11 := fr10.trans fr11
              refine s_cons (s_nm (e_blt (es_cons (e_bin (e_var rfl (e_lst (es_cons (e_tup (es_cons (e_var rfl (es_cons (e_var rfl (es_nil ⟨two_sz, es_nil ⟨one_sz, b_addl (g_app gt) g_last (by show (1 : Nat) + 1 ≤ sizeLine; decide) (es_nil (srt_ok (T := [(i, 2 ^ j), (o, mk)]) g_last fun T' pm => s_nil ⟨T', _, fun x hx => ?_, ?_, ds11.app.app.app, ((fr11.trans Fr.app).trans Fr.app).trans Fr.app, g_app (g_app (g_app gc)), g_app (g_app (g_app gm)), g_last, ?_, rfl⟩))⟩⟩)))))))))))))
              · have := pm.mem_iff.mp hx
                simp only [List.mem_cons, List.not_mem_nil, or_false] at this
                rcases this with rfl | rfl
                · exact hi
                · exact ho
              · have := fr11.le
                simp
                omega
              · have := g_lt gm
                simp
                omega
            · exact s_nil ⟨[(i, 2 ^ j)], t, fun x hx => by rw [List.mem_singleton.mp hx]; exact hi, by omega, ds11, fr10.trans fr11, fr11.get (by omega) gc, fr11.get (by omega) gm, fr11.get (by omega) gt, by omega, rfl⟩
          · exact t_bl (d_nf h2 (s_nil ⟨[(i, 2 ^ j)], t, fun x hx => by rw [List.mem_singleton.mp hx]; exact hi, by omega, ds10, fr10, gc, gm, gt, by omega, rfl⟩))
        · exact t_bl (d_nf h1 (s_nil ⟨[(i, 2 ^ j)], t, fun x hx => by rw [List.mem_singleton.mp hx]; exact hi, by omega, ds10, fr10, gc, gm, gt, by omega, rfl⟩))
        clear gc gm gt ds10 fr10 lmt lct lt7 t
        obtain ⟨T, t, hT, lt, ds11, fr11, gc, gm, gt, lmt, rfl⟩ := h
        -- later
        refine s_mid (hC k) (fun σ S' => ∃ (la : Nat), DS S' a b ∧ Fr a S11 S' ∧ σ = [some (.ref a), some (.ref c), some (.int (nc : Nat)), some (.ref m), some (.int (i : Nat)), some (.int (j : Nat)), some (.ref t), some (.int (o : Nat)), some (.int (mk : Nat)), some (.int (la : Nat)), s10, none, none, none, none, none, none]) (s_nm (e_ite (e_call (es_cons (e_var rfl (es_cons (e_int (es_nil (rare_is (by omega) (n := 5) (by decide) (by decide) ds11 rfl fun rr S12 ds12 fr12 => t_bl ?_))))))))) fun σ S12 h => ?_
        · cases rr with
          | true =>
            exact k_t (e_call (es_cons (e_var rfl (es_cons (e_ix (e_var rfl (e_var rfl (x_rl (fr12.get (by omega) gc) hi (es_nil (draw_nat (by omega) ds12 (n := sz.getD i 0) (by omega) (by omega) rfl fun w S13 hw ds13 fr13 => ⟨w, ds13, fr12.trans fr13, rfl⟩))))))))))
          | false =>
            refine k_f (e_bin (e_blt (es_cons (e_bin (e_var rfl (e_int (b_add (es_nil (f_int (e_ix (e_var rfl (e_var rfl (x_rl (fr12.get (by omega) gc) hi (b_mod (by omega) ?_))))))))))))))
            rw [show (j : Int) + 1 = ((j + 1 : Nat) : Int) by omega, modn]
            exact ⟨_, ds12, fr12, rfl⟩
        obtain ⟨la, ds12, fr12, rfl⟩ := h
        replace gc := fr12.get (by omega) gc
        replace gm := fr12.get (by omega) gm
        replace gt := fr12.get (by omega) gt
        replace fr12 := fr11.trans fr12
        clear ds11 fr11
        -- takes
        refine s_mid (hC k) (fun σ S' => ∃ (V : Ps), (V.map Prod.fst).Nodup ∧ (∀ x ∈ V, x.1 < nc) ∧ DS S' a b ∧ Fr a S12 S' ∧ σ = [some (.ref a), some (.ref c), some (.int (nc : Nat)), some (.ref m), some (.int (i : Nat)), some (.int (j : Nat)), some (.ref t), some (.int (o : Nat)), some (.int (mk : Nat)), some (.int (la : Nat)), some (psD V), none, none, none, none, none, none]) (s_nm (e_ite (e_and (e_cmp (e_var rfl (e_int (c_eqi (t_bl (d_2 (fun h1 => ?_) fun h1 => ?_))))))))) fun σ S13 h => ?_
        · refine e_cmp (e_call (es_cons (e_var rfl (es_cons (e_int (es_nil (draw_nat (by omega) ds12 (n := 4) (by decide) (by decide) rfl fun w S13 hw ds13 fr13 => e_int (c_eqi (t_bl (d_2 (fun h3 => ?_) fun h3 => ?_))))))))))
          · exact e_tup (es_cons (e_tup (es_cons (e_int (es_cons (e_int (es_nil ⟨two_sz, es_nil ⟨one_sz, ⟨[(0, 1)], by simp, fun x hx => by rw [List.mem_singleton.mp hx]; dsimp only; omega, ds13, fr13, rfl⟩⟩⟩)))))))
          · exact e_tup (es_nil ⟨by decide, ⟨[], by simp, (fun _ z => nomatch z), ds13, fr13, rfl⟩⟩)
        · exact t_bl (d_f h1 (e_tup (es_nil ⟨by decide, ⟨[], by simp, (fun _ z => nomatch z), ds12, Fr.refl, rfl⟩⟩)))
        obtain ⟨V, nd, hV, ds13, fr13, rfl⟩ := h
        replace gc := fr13.get (by omega) gc
        replace gm := fr13.get (by omega) gm
        replace gt := fr13.get (by omega) gt
        replace fr13 := fr12.trans fr13
        clear ds12 fr12
        refine s_cons (s_ex (e_meth (e_var rfl ⟨r_lst ⟨by decide, by decide, by decide⟩ gm, es_cons (e_tup (es_cons (e_blt (es_cons (e_var rfl (es_nil (f_tupr gt (es_cons (e_tup (es_cons (e_tup (es_cons (e_var rfl (es_cons (e_var rfl (es_nil ⟨two_sz, es_nil ⟨one_sz, es_cons (e_var rfl (es_cons (e_tup (es_nil ⟨by decide, es_nil ⟨(by show (4 : Nat) ≤ sizeLine; decide), es_nil (m_app gm (by rw [List.length_map, sizeLine_eq]; omega) ?_)⟩⟩))))⟩⟩))))))))))))))))⟩)))
        refine s_nil ⟨R2 ++ [⟨T, [(i, la)], V, []⟩], _, _, _, _, _, _, by rw [List.length_append]; simp; omega, fun x hx => ?_, ds13.setn (by omega) (by omega), fr13.setn (by omega), g_setn (by omega) gc, ?_, rfl⟩
        · rcases List.mem_append.mp hx with h | h
          · exact hR2 x h
          · rw [List.mem_singleton.mp h]
            exact ⟨hT, fun x hx => by rw [List.mem_singleton.mp hx]; exact hi, nd, hV, (fun _ z => nomatch z)⟩
        · rw [List.map_append]
          exact g_set gm
      · obtain ⟨R2, s5, s6, s7, s8, s9, s10, lR2, hR2, ds7, fr7, gc, gm, rfl⟩ := h
        exact s_nil ⟨R2, _, _, _, _, _, _, _, by omega, hR2, ds7, fr7, gc, gm, rfl⟩
    · obtain ⟨Rs, s4, s5, s6, s7, s8, s9, s10, lR, hR, ds6, fr6, gc, gm, rfl⟩ := h
      exact ⟨Rs, _, _, _, _, _, _, _, by omega, hR, ds6, fr6, gc, gm, rfl⟩
  clear gc gm ds4 fr4
  obtain ⟨Rs, s4, s5, s6, s7, s8, s9, s10, lR, hR, ds6, fr6, gc, gm, rfl⟩ := h
  -- shuffled
  refine s_cons (s_nm (e_call (es_cons (e_var rfl (es_cons (e_var rfl (es_nil (shuf_is (by omega) ds6 (by rw [List.length_map]; omega) (.inr ⟨m, rfl, by omega, gm⟩) fun ys p S7 pm ds7 fr7 hp gp => ?_))))))))
  dsimp only [List.set]
  have ly : ys.length ≤ 12 := by
    have := pm.length_eq
    rw [List.length_map] at this
    omega
  have hy : ∀ y ∈ ys, ∃ r, y = r4 r ∧ RowOk sz.length nc r := fun y h => by
    obtain ⟨r, h1, rfl⟩ := List.mem_map.mp (pm.mem_iff.mp h)
    exact ⟨r, rfl, hR r h1⟩
  replace gc := fr7.get (by omega) gc
  replace fr7 := fr6.trans fr7
  clear pm gm ds6 fr6
  -- their names
  refine s_cons (s_nm (e_comp (i_rng (es_cons (e_blt (es_cons (e_var rfl (es_nil (f_lenr gp (es_nil (rg_1 ⟨rg_ok (by omega), by rw [rgD_len, sizeLine_eq]; omega, ?_⟩)))))))))))
  refine comp_inv (comp_mono (hC k)) (fun i acc S' => S' = S7 ∧ ∃ R2 : List (D × Row), acc = R2.map (fun x => rD x.1 x.2) ∧ R2.length = i ∧ ∀ x ∈ R2, RowOk sz.length nc x.2) ⟨rfl, [], rfl, rfl, (fun _ z => nomatch z)⟩ (fun _ _ _ _ _ => gd_nil) (fun i x acc S8 hx h => ?_) fun acc S8 h => ?_
  · obtain ⟨rfl, R2, rfl, lR2, hR2⟩ := h
    obtain ⟨hi, rfl⟩ := rgD_get hx
    obtain ⟨r, er, hr⟩ := hy _ (List.getElem_mem hi)
    have e1 : ("/" : Str).length = 1 := by decide +kernel
    have e2 : ("/0" : Str).length = 2 := by decide +kernel
    have e3 : ("h" : Str).length = 1 := by decide +kernel
    have l3 := ts_len (n := i % 3) (by omega)
    have l4 := ts_len (n := i) (by omega)
    refine cmp_nm (if_nil (k_t (e_bin (e_tup (es_cons (e_bin (e_bin (e_bin (e_bin (e_str (e_blt (es_cons (e_bin (e_blt (es_cons (e_var rfl (es_nil (f_int (e_int (b_mod (by decide) ?_))))))))))))))))))))
    rw [show (i : Int) % 3 = ((i % 3 : Nat) : Int) by omega]
    refine es_nil (f_ts (by omega) (b_adds ?_ (e_str (b_adds ?_ (e_blt (es_cons (e_var rfl (es_nil (f_ts (by omega) (b_adds ?_ (e_str (b_adds ?_ (es_nil ⟨one_sz, e_ix (e_var rfl (e_var rfl (x_ref gp (atI_nat (List.getElem?_eq_getElem hi)) ?_)))⟩)))))))))))))
    · rw [e3, sizeLine_eq]; omega
    · rw [app_len, e1, e3, sizeLine_eq]; omega
    · rw [app_len, app_len, e1, e3, sizeLine_eq]; omega
    · rw [app_len, app_len, app_len, e1, e2, e3, sizeLine_eq]; omega
    rw [er]
    refine b_addt (by show (1 : Nat) + 4 ≤ sizeLine; decide) ⟨rfl, R2 ++ [(D.str (("h" : Str) ++ ts (i % 3) ++ ("/" : Str) ++ ts i ++ ("/0" : Str)), r)], by rw [List.map_append]; rfl, by rw [List.length_append, lR2]; rfl, fun x hx => ?_⟩
    rcases List.mem_append.mp hx with h | h
    · exact hR2 x h
    · rw [List.mem_singleton.mp h]
      exact hr
  obtain ⟨rfl, R2, rfl, lR2, hR2⟩ := h
  rw [rgD_len] at lR2
  dsimp only [List.set]
  have lmm : S.length ≤ S8.length := fr7.le
  have gm : (S8 ++ [MP.O.lst (R2.map fun x => rD x.1 x.2)])[S8.length]? = some (.lst (R2.map fun x => rD x.1 x.2)) := g_last
  replace gc := g_app (l := [MP.O.lst (R2.map fun x => rD x.1 x.2)]) gc
  replace ds7 := ds7.app (l := [MP.O.lst (R2.map fun x => rD x.1 x.2)])
  replace fr7 := fr7.trans (Fr.app (l := [MP.O.lst (R2.map fun x => rD x.1 x.2)]))
  generalize S8 ++ [MP.O.lst (R2.map fun x => rD x.1 x.2)] = S9 at gc gm ds7 fr7 ⊢
  generalize (S8.length : Nat) = mm at gm lmm ⊢
  clear gp hy
  -- the variables
  refine s_cons (s_nm (e_blt (es_cons (e_comp (i_rng (es_cons (e_blt (es_cons (e_var rfl (es_nil (f_lenr gc (es_nil (rg_1 ⟨by rw [nl_len]; exact rg_ok (by omega), by rw [nl_len, rgD_len, sizeLine_eq]; omega, ?_⟩)))))))))))))
  rw [nl_len, rgD_map]
  refine comp_map (fun x : Nat => D.int (x : Nat)) (fun v => D.tup [.str (("v" : Str) ++ ts v), .tup (rgD 0 (sz.getD v 0 : Nat))]) gd_nil (xs := List.range sz.length) (fun x hx K hK => ?_) ?_
  · have hx := List.mem_range.mp hx
    have h4 := hz x hx
    refine cmp_nm (if_nil (k_t (e_tup (es_cons (e_bin (e_str (e_blt (es_cons (e_var rfl (es_nil (f_ts (by omega) (b_adds ?_ (es_cons (e_trg (es_cons (e_ix (e_var rfl (e_var rfl (x_rl gc hx (es_nil (rg_1 ⟨⟨by omega, by omega, by omega, by omega, by omega⟩, es_nil ⟨two_sz, hK⟩⟩)))))))))))))))))))))
    have := ts_len (n := x) (by omega)
    have e : ("v" : Str).length = 1 := by decide +kernel
    rw [e, sizeLine_eq]
    omega
  refine es_nil (f_tupr g_last ?_)
  dsimp only [List.set]
  generalize hkn : ((List.range sz.length).map fun v => D.tup [.str (("v" : Str) ++ ts v), .tup (rgD 0 (sz.getD v 0 : Nat))]) = kn
  replace gc := g_app (l := [MP.O.lst kn]) gc
  replace gm := g_app (l := [MP.O.lst kn]) gm
  replace ds7 := ds7.app (l := [MP.O.lst kn])
  replace fr7 := fr7.trans (Fr.app (l := [MP.O.lst kn]))
  generalize S9 ++ [MP.O.lst kn] = S10 at gc gm ds7 fr7 ⊢
  -- where it starts
  refine s_cons (s_nm (e_blt (es_cons (e_orl (e_comp (i_seq (e_var rfl ?_)))))))
  dsimp only
  rw [l_of gc]
  dsimp only
  refine ⟨by rw [nl_len, sizeLine_eq]; omega, ?_⟩
  refine comp_dr (c := C k) S10 (fun S' fr => gd_one (fr.get (by omega) gc)) (fun _ _ => True) ds7 Fr.refl (fun i x S' K hx ds' fr' hK => ?_) fun st S11 ls _ ds11 fr11 => ?_
  · obtain ⟨p, hp, rfl⟩ := nl_get hx
    have hi := (List.getElem?_eq_some_iff.mp hp).1
    have := hz i hi
    rw [show sz.getD i 0 = p by rw [List.getD_eq_getElem?_getD, hp]; rfl] at this
    exact cmp_nm (if_nil (k_t (e_call (es_cons (e_var rfl (es_cons (e_var rfl (es_nil (draw_nat (by omega) ds' (n := p) (by omega) (by omega) rfl fun v S'' hv ds'' fr'' => hK v S'' trivial ds'' fr'')))))))))
  rw [nl_len] at ls
  refine es_nil (f_tupr g_last ?_)
  dsimp only [List.set]
  replace gm := g_app (l := [MP.O.lst (nl st)]) (fr11.get (by omega) gm)
  replace ds11 := ds11.app (l := [MP.O.lst (nl st)])
  replace fr11 := (fr7.trans fr11).trans (Fr.app (l := [MP.O.lst (nl st)]))
  generalize S11 ++ [MP.O.lst (nl st)] = S12 at gm ds11 fr11 ⊢
  -- the counts
  refine s_cons (s_nm (e_blt (es_cons (e_comp (i_rng (es_cons (e_var rfl (es_nil (rg_1 ⟨rg_ok (by omega), by rw [rgD_len, sizeLine_eq]; omega, ?_⟩)))))))))
  refine comp_dr (c := C k) S12 (fun S' fr => gd_nil) (fun _ _ => True) ds11 Fr.refl (fun i x S' K hx ds' fr' hK => ?_) fun cs S13 lcs _ ds13 fr13 => ?_
  · exact cmp_nm (if_nil (k_t (e_call (es_cons (e_var rfl (es_cons (e_int (es_nil (draw_nat (by omega) ds' (n := 3) (by omega) (by omega) rfl fun v S'' hv ds'' fr'' => hK v S'' trivial ds'' fr'')))))))))
  rw [rgD_len] at lcs
  refine es_nil (f_tupr g_last ?_)
  dsimp only [List.set]
  replace gm := g_app (l := [MP.O.lst (nl cs)]) (fr13.get (by omega) gm)
  replace ds13 := ds13.app (l := [MP.O.lst (nl cs)])
  replace fr13 := (fr11.trans fr13).trans (Fr.app (l := [MP.O.lst (nl cs)]))
  generalize S13 ++ [MP.O.lst (nl cs)] = S14 at gm ds13 fr13 ⊢
  -- what is added
  refine s_mid (hC k) (fun σ S' => ∃ (A : List Nat), A.length ≤ 1 ∧ (∀ x ∈ A, x < nc) ∧ DS S' a b ∧ Fr a S14 S' ∧ σ = [some (.ref a), some (.ref c), some (.int (nc : Nat)), some (.ref mm), s4, s5, s6, s7, s8, s9, s10, some (.tup kn), some (.tup (nl st)), some (.tup (nl cs)), some (tN A), none, none]) (s_nm (e_ite (e_and (e_cmp (e_var rfl (e_int (c_eqi (t_bl (d_2 (fun h1 => ?_) fun h1 => ?_))))))))) fun σ S15 h => ?_
  · refine e_cmp (e_call (es_cons (e_var rfl (es_cons (e_int (es_nil (draw_nat (by omega) ds13 (n := 2) (by decide) (by decide) rfl fun w S15 hw ds15 fr15 => e_int (c_eqi (t_bl (d_2 (fun h3 => ?_) fun h3 => ?_))))))))))
    · exact e_tup (es_cons (e_int (es_nil ⟨one_sz, ⟨[0], by simp, fun x hx => by rw [List.mem_singleton.mp hx]; omega, ds15, fr15, rfl⟩⟩)))
    · exact e_tup (es_nil ⟨by decide, ⟨[], by simp, (fun _ z => nomatch z), ds15, fr15, rfl⟩⟩)
  · exact t_bl (d_f h1 (e_tup (es_nil ⟨by decide, ⟨[], by simp, (fun _ z => nomatch z), ds13, Fr.refl, rfl⟩⟩)))
  obtain ⟨A, lA, hA, ds15, fr15, rfl⟩ := h
  exact s_cons (s_ret (e_tup (es_cons (e_var rfl (es_cons (e_sl (e_tup (es_cons (e_str (es_nil ⟨one_sz, o_no (o_so (e_var rfl (sl_tup (es_cons (e_blt (es_cons (e_var rfl (es_nil (f_tupr (fr15.get (by omega) gm) (es_cons (e_var rfl (es_cons (e_var rfl (es_cons (e_var rfl (es_nil ⟨(by show (6 : Nat) ≤ sizeLine; decide), q ⟨.tup kn, .tup (cutD [D.str "c.n"] none (some (nc : Int))), R2, st, cs, A⟩ sz.length nc S15 ⟨ls, lcs, hA, hR2, (by dsimp only; omega), (by dsimp only; omega)⟩ (by dsimp only; omega) ds15 (fr13.trans fr15)⟩))))))))))))))))⟩))))))))))
end
end K24
/-! K24I: law k24, _law_right; a line of states: plain. -/
namespace K24
open PySem PySem.Spec PyProof.Rows L2 MP
local macro_rules | `(tactic| walk_at "look") => `(tactic| first | assumption | exact g_last | (with_reducible apply g_set; walk_at "look") | ((with_reducible refine g_setn ?h1 ?h2); (case h1 => first | assumption | omega | (apply Ne.symm; assumption)); (case h2 => walk_at "look")) | ((with_reducible refine g_app ?_); walk_at "look") | ((with_reducible refine' Fr.get ?h1 ?h2 ?h3); (case h1 => assumption); (case h2 => first | assumption | omega | (apply Ne.symm; assumption)); (case h3 => walk_at "look")) | ((with_reducible refine' Ch.get ?h1 ?h2 ?h3); (case h1 => assumption); (case h2 => first | assumption | (simp; done) | (simp only [List.mem_cons, List.not_mem_nil, or_false, not_or]; omega)); (case h3 => walk_at "look")))
local macro_rules | `(tactic| walk_at "kn") => `(tactic| first | assumption | omega | (simp; done) | decide)
local macro_rules | `(tactic| walk_at "sz") => `(tactic| first | assumption | (rw [sizeLine_eq]; first | omega | (simp; done) | (simp; omega)))
local macro_rules | `(tactic| walk_at "at") => `(tactic| first | exact rfl | assumption)
local macro_rules | `(tactic| walk_at "mp1") => `(tactic| first
  | with_reducible refine s_cons ?_ | with_reducible refine s_nil ?_ | with_reducible refine s_nm ?_ | with_reducible refine s_ix ?_ | with_reducible refine s_asg ?_ | with_reducible refine s_ex ?_ | with_reducible refine s_iff ?_ | with_reducible refine s_ret ?_ | with_reducible refine s_for ?_
  | ((with_reducible refine' e_var ?h1 ?_); (case h1 => exact rfl)) | with_reducible refine e_int ?_ | with_reducible refine e_bin ?_ | with_reducible refine e_cmp ?_ | with_reducible refine e_ix ?_ | with_reducible refine e_call ?_ | with_reducible refine e_blt ?_ | with_reducible refine e_bl ?_ | with_reducible refine e_and ?_ | with_reducible refine e_or ?_ | with_reducible refine e_not ?_ | with_reducible refine e_ite ?_
  | with_reducible refine es_cons ?_ | with_reducible refine es_nil ?_ | with_reducible refine e_tup ?_ | with_reducible refine e_lst ?_ | with_reducible refine e_meth ?_ | with_reducible refine e_comp ?_ | with_reducible refine e_sl ?_ | with_reducible refine e_neg ?_ | with_reducible refine e_isi ?_ | with_reducible refine e_lrg ?_ | with_reducible refine e_trg ?_ | with_reducible refine e_non ?_ | with_reducible refine e_str ?_ | with_reducible refine e_fnv ?_ | with_reducible refine e_orl ?_ | with_reducible refine e_dnew ?_ | with_reducible refine e_dget ?_ | with_reducible refine e_dget2 ?_
  | with_reducible refine o_no ?_ | with_reducible refine o_so ?_ | with_reducible refine i_rng ?_ | with_reducible refine i_seq ?_ | with_reducible refine i_enum ?_ | with_reducible refine i_rngD ?_ | with_reducible refine if_nil ?_ | with_reducible refine if_cons ?_ | with_reducible refine rg_1 ?_ | with_reducible refine rg_2 ?_
  | with_reducible refine b_add ?_ | with_reducible refine b_sub ?_ | ((with_reducible refine' b_mul ?h1 ?_); (case h1 => first | assumption | mul_fits)) | ((with_reducible refine' b_fdiv ?h1 ?h2 ?_); (case h1 => walk_at "kn"); (case h2 => first | assumption | decide)) | ((with_reducible refine' b_mod ?h1 ?_); (case h1 => walk_at "kn")) | ((with_reducible refine' b_pow ?h1 ?_); (case h1 => first | assumption | exact ⟨by decide, by decide, by decide⟩)) | ((with_reducible refine' b_shr ?h1 ?_); (case h1 => walk_at "kn")) | ((with_reducible refine' b_shl ?h1 ?_); (case h1 => assumption)) | with_reducible refine b_and ?_ | with_reducible refine b_or ?_ | with_reducible refine b_xor ?_
  | with_reducible refine c_lt ?_ | with_reducible refine c_le ?_ | with_reducible refine c_gt ?_ | with_reducible refine c_ge ?_ | with_reducible refine c_eqi ?_ | with_reducible refine c_nei ?_ | with_reducible refine c_eqb ?_ | with_reducible refine c_neb ?_ | with_reducible refine c_eqs ?_ | with_reducible refine c_nes ?_
  | with_reducible refine t_bl ?_ | with_reducible refine t_int ?_ | with_reducible refine t_tup ?_ | with_reducible refine t_non ?_
  | ((with_reducible refine' x_ref ?h1 ?h2 ?_); (case h1 => walk_at "look"); (case h2 => walk_at "at")) | ((with_reducible refine' x_tup ?h1 ?_); (case h1 => walk_at "at")) | ((with_reducible refine' x_klst ?h1 ?_); (case h1 => walk_at "at"))
  | ((with_reducible refine' set_ref ?h1 ?h2 ?_); (case h1 => walk_at "look"); (case h2 => walk_at "at"))
  | ((with_reducible refine' f_lenr ?h1 ?_); (case h1 => walk_at "look")) | with_reducible refine f_lent ?_ | with_reducible refine f_lenk ?_ | with_reducible refine f_int ?_ | ((with_reducible refine' f_listr ?h1 ?_); (case h1 => walk_at "look")) | with_reducible refine f_listt ?_ | with_reducible refine f_listk ?_ | ((with_reducible refine' f_tupr ?h1 ?_); (case h1 => walk_at "look")) | with_reducible refine f_tupt ?_ | with_reducible refine f_max ?_ | with_reducible refine f_min ?_
  | with_reducible refine sl_klst ?_ | ((with_reducible refine' sl_ref ?h1 ?_); (case h1 => walk_at "look")) | with_reducible refine sl_tup ?_
  | ((with_reducible refine' m_app ?h1 ?h2 ?_); (case h1 => walk_at "look"); (case h2 => walk_at "sz")) | ((with_reducible refine' m_ext ?h1 ?h2 ?h3 ?_); (case h1 => walk_at "look"); (case h2 => walk_at "look"); (case h3 => walk_at "sz")) | ((with_reducible refine' m_extT ?h1 ?h3 ?_); (case h1 => walk_at "look"); (case h3 => walk_at "sz"))
  | with_reducible refine k_t ?_ | with_reducible refine k_f ?_ | with_reducible refine k_nt ?_ | with_reducible refine k_nf ?_
  | ((with_reducible refine' d_t ?h1 ?_); (case h1 => first | assumption | omega)) | ((with_reducible refine' d_f ?h1 ?_); (case h1 => first | assumption | omega)) | ((with_reducible refine' d_nt ?h1 ?_); (case h1 => first | assumption | omega)) | ((with_reducible refine' d_nf ?h1 ?_); (case h1 => first | assumption | omega))
  | ((with_reducible refine' And.intro (r_lst ?h1 ?h2) ?_); (case h1 => decide); (case h2 => walk_at "look")) | (with_reducible refine And.intro r_int ?_)
  | ((with_reducible refine And.intro ?h1 ?_); (case h1 => (with_reducible show List.length _ ≤ sizeLine); walk_at "sz"))
  | dsimp only
  | dsimp only [isTy_int, isTy_bl, isTy_str, isTy_non, isTy_tup])
local macro_rules | `(tactic| walk_at "mp") => `(tactic| repeat walk_at "mp1")
local macro_rules | `(tactic| walk_at "tx1") => `(tactic| first
  | walk_at "mp1"
  | with_reducible refine e_cst ?_ | ((with_reducible refine' f_lens ?h1 ?_); (case h1 => walk_at "sz"))
  | ((with_reducible refine' x_str ?h1 ?h2 ?_); (case h1 => walk_at "sz"); (case h2 => walk_at "at"))
  | ((with_reducible refine' sl_str' ?h1 ?_); (case h1 => walk_at "sz")))
local macro_rules | `(tactic| walk_at "tx") => `(tactic| repeat walk_at "tx1")

def F0 : Nat := 5001
theorem pu_S : puD 40 aS = true := by decide +kernel
theorem pu_N : puD 40 aN = true := by decide +kernel
section
variable {k a b : Nat} {S : Sto} {Q : KD} {E : Ex → Sto → Prop}
theorem tell_le {N : Net} {e : Bool} {L : List St} : (N.tell e L).length ≤ L.length := by
  unfold Net.tell
  split
  · exact List.length_filter_le _ _
  · exact Nat.le_refl _
set_option maxHeartbeats 2000000 in
theorem right_ok (hk : 9 ≤ k) {nv nc n M : Nat} {N : Net} {ns : List Nat} {e : Bool} (ds : DS S a b) (hna : n ≠ a) (g : S[n]? = some (.ins 0 N.fs)) (O : NetOk nv nc N) (hl : ns.length = N.added.length) (hR : (N.run F0 ns).length = M) (h1 : 1 ≤ M) (h150 : M ≤ 150) (q : ∀ S', DS S' a b → Fr a S S' → Q (.bl true) S') :
    C k f_law_right [.ref a, .ref n, tN ns, .tup ((N.tell e (N.run F0 ns)).map stD), .int (M : Nat), .bl e] S Q E := by
  obtain ⟨k, rfl⟩ := up (n := 1) (by omega : 1 ≤ k)
  have hk : 8 ≤ k := by omega
  refine c_law_right ?_
  unfold b_law_right
  have lta := ds.lta
  have ltb := ds.ltb
  have hF0 : F0 = 5001 := rfl
  have tl := tell_le (N := N) (e := e) (L := N.run F0 ns)
  have chg : ∀ {S1 S2 : Sto}, Ch [] S1 S2 → Fr a S1 S2 := fun h => ⟨h.le, fun i hi _ => h.eq i hi fun z => nomatch z⟩
  have chd : ∀ {S1 S2 : Sto}, DS S1 a b → Ch [] S1 S2 → DS S2 a b := fun h c => h.ch c (fun z => nomatch z) fun z => nomatch z
  have aM : ∀ m, M ≤ m → N.ans F0 m ns e = aT (N.tell e (N.run F0 ns)) := fun m hm => by
    unfold Net.ans
    rw [if_pos hl, if_pos (by omega)]
  have aL : ∀ m, m < M → N.ans F0 m ns e = aS := fun m hm => by
    unfold Net.ans
    rw [if_pos hl, if_neg (by omega)]
  have aX : ∀ (m : Nat) (ns' : List Nat), ns'.length ≠ ns.length → N.ans F0 m ns' e = aN := fun m ns' h => by
    unfold Net.ans
    rw [if_neg (by omega)]
  refine s_mid (hC k) (fun σ S' => ∃ s6, DS S' a b ∧ Fr a S S' ∧ σ = [some (.ref a), some (.ref n), some (tN ns), some (.tup ((N.tell e (N.run F0 ns)).map stD)), some (.int (M : Nat)), some (.bl e), s6]) (s_for (i_seq (e_tup (es_cons (e_non (es_cons (e_var rfl (es_cons (e_bin (e_bin (e_var rfl (e_int (b_add (e_call (es_cons (e_var rfl (es_cons (e_int (es_nil (draw_nat (by omega) ds (n := 40) (by decide) (by decide) rfl fun v S1 hv ds1 fr1 => b_add ?_)))))))))))))))))))) fun σ S1 h => ?_
  · rw [show (M : Int) + 1 + (v : Nat) = ((M + 1 + v : Nat) : Int) by omega]
    refine es_nil ⟨(by show (3 : Nat) ≤ sizeLine; decide), ?_⟩
    dsimp only
    refine for_inv (hC k) (fun i σ S' => ∃ s6, DS S' a b ∧ Fr a S S' ∧ σ = [some (.ref a), some (.ref n), some (tN ns), some (.tup ((N.tell e (N.run F0 ns)).map stD)), some (.int (M : Nat)), some (.bl e), s6]) ⟨_, ds1, fr1, rfl⟩ (fun _ _ _ _ _ => gd_nil) (fun i x σ S2 hx h => ?_) fun σ S2 h => h
    obtain ⟨s6, ds2, fr2, rfl⟩ := h
    obtain ⟨m, hm, m1, m2⟩ : ∃ m, Mo x m ∧ M ≤ m ∧ m ≤ 5000 := by
      have := List.mem_of_getElem? hx
      simp only [List.mem_cons, List.not_mem_nil, or_false] at this
      rcases this with rfl | rfl | rfl
      · exact ⟨3000, .inl ⟨rfl, rfl⟩, by omega, by omega⟩
      · exact ⟨M, .inr rfl, by omega, by omega⟩
      · exact ⟨M + 1 + v, .inr rfl, by omega, by omega⟩
    dsimp only [asg, List.set]
    refine s_cons (s_iff (e_not (e_call (es_cons (e_call (es_cons (e_var rfl (es_cons (e_var rfl (es_cons (e_var rfl (es_cons (e_var rfl (es_nil (ans_ok (F := F0) (by omega) (fr2.get hna g) O hm (by omega) m2 (by omega) fun S3 ch3 => ?_)))))))))))))))
    rw [aM m m1]
    refine es_cons (e_var rfl (es_nil (same_ok (by omega) (by omega) fun S4 ch4 => t_bl (t_bl (k_f (s_nil (s_nil ⟨_, chd (chd ds2 ch3) ch4, (fr2.trans (chg ch3)).trans (chg ch4), rfl⟩)))))))
  obtain ⟨s6, ds1, fr1, rfl⟩ := h
  refine s_mid (hC k) (fun σ S' => ∃ s6, DS S' a b ∧ Fr a S S' ∧ σ = [some (.ref a), some (.ref n), some (tN ns), some (.tup ((N.tell e (N.run F0 ns)).map stD)), some (.int (M : Nat)), some (.bl e), s6]) (s_iff (e_cmp (e_var rfl (e_int (c_gt (t_bl (d_2 (fun h2 => ?_) fun h2 => s_nil ⟨_, ds1, fr1, rfl⟩))))))) fun σ S2 h => ?_
  · refine s_cons (s_for (i_seq (e_tup (es_cons (e_bin (e_var rfl (e_int (b_sub (es_cons (e_bin (e_int (e_call (es_cons (e_var rfl (es_cons (e_bin (e_var rfl (e_int (b_sub (es_nil (draw_nat (by omega) ds1 (n := M - 1) (by omega) (by omega) (by omega) fun v S2 hv ds2 fr2 => b_add ?_)))))))))))))))))))))
    rw [show (1 : Int) + (v : Nat) = ((v + 1 : Nat) : Int) by omega, show (M : Int) - 1 = ((M - 1 : Nat) : Int) by omega]
    refine es_nil ⟨two_sz, ?_⟩
    dsimp only
    refine for_inv (hC k) (fun i σ S' => ∃ s6, DS S' a b ∧ Fr a S S' ∧ σ = [some (.ref a), some (.ref n), some (tN ns), some (.tup ((N.tell e (N.run F0 ns)).map stD)), some (.int (M : Nat)), some (.bl e), s6]) ⟨_, ds2, fr1.trans fr2, rfl⟩ (fun _ _ _ _ _ => gd_nil) (fun i x σ S3 hx h => ?_) fun σ S3 h => s_nil h
    obtain ⟨s6, ds3, fr3, rfl⟩ := h
    obtain ⟨m, hm, m1, m2⟩ : ∃ m, Mo x m ∧ 1 ≤ m ∧ m < M := by
      have := List.mem_of_getElem? hx
      simp only [List.mem_cons, List.not_mem_nil, or_false] at this
      rcases this with rfl | rfl
      · exact ⟨M - 1, .inr rfl, by omega, by omega⟩
      · exact ⟨v + 1, .inr rfl, by omega, by omega⟩
    dsimp only [asg, List.set]
    refine s_cons (s_iff (e_cmp (e_call (es_cons (e_var rfl (es_cons (e_var rfl (es_cons (e_var rfl (es_cons (e_var rfl (es_nil (ans_ok (F := F0) (by omega) (fr3.get hna g) O hm (by omega) (by omega) (by omega) fun S4 ch4 => ?_)))))))))))))
    rw [aL m m2]
    exact e_tup (es_cons (e_str (es_nil ⟨one_sz, c_neD pu_S (t_bl (k_f (s_nil (s_nil ⟨_, chd ds3 ch4, fr3.trans (chg ch4), rfl⟩))))⟩)))
  clear ds1 fr1
  obtain ⟨s6, ds1, fr1, rfl⟩ := h
  refine s_mid (hC k) (fun σ S' => ∃ s6, DS S' a b ∧ Fr a S S' ∧ σ = [some (.ref a), some (.ref n), some (tN ns), some (.tup ((N.tell e (N.run F0 ns)).map stD)), some (.int (M : Nat)), some (.bl e), s6]) (s_iff (e_and (e_cmp (e_blt (es_cons (e_var rfl (es_nil (f_lent (e_int (c_gt (t_bl (d_2 (fun h3 => ?_) fun h3 => ?_)))))))))))) fun σ S3 h => ?_
  · rw [nl_len] at h3
    refine e_cmp (e_call (es_cons (e_var rfl (es_cons (e_sl (e_var rfl (o_so (e_int (o_no (sl_tup ?_))))))))))
    have ec : cutD (nl ns) (some 1) none = nl (ns.drop 1) := by
      rw [show (some (1 : Int)) = some ((1 : Nat) : Int) from rfl, cut_from]
      unfold nl
      rw [List.map_drop]
    rw [ec]
    refine es_cons (e_non (es_cons (e_var rfl (es_nil (ans_ok (F := F0) (ns := ns.drop 1) (by omega) (fr1.get hna g) O (.inl ⟨rfl, rfl⟩) (by omega) (by omega) (by omega) fun S4 ch4 => ?_)))))
    rw [aX _ _ (by rw [List.length_drop]; omega)]
    exact e_tup (es_cons (e_str (es_nil ⟨one_sz, c_neD pu_N (t_bl (k_f (s_nil ⟨_, chd ds1 ch4, fr1.trans (chg ch4), rfl⟩)))⟩)))
  · exact t_bl (d_f h3 (s_nil ⟨_, ds1, fr1, rfl⟩))
  clear ds1 fr1
  obtain ⟨s6, ds1, fr1, rfl⟩ := h
  refine s_cons (s_ret (e_cmp (e_call (es_cons (e_var rfl (es_cons (e_bin (e_var rfl (e_tup (es_cons (e_call (es_cons (e_var rfl (es_cons (e_int (es_nil (draw_nat (by omega) ds1 (n := 3) (by decide) (by decide) rfl fun v S4 hv ds4 fr4 => es_nil ⟨one_sz, b_addt ?_ ?_⟩)))))))))))))))))
  · have := O.la
    rw [nl_len, sizeLine_eq]
    simp
    omega
  rw [show nl ns ++ [D.int (v : Nat)] = nl (ns ++ [v]) by unfold nl; rw [List.map_append]; rfl]
  refine es_cons (e_non (es_cons (e_var rfl (es_nil (ans_ok (F := F0) (ns := ns ++ [v]) (by omega) (fr4.get hna (fr1.get hna g)) O (.inl ⟨rfl, rfl⟩) (by omega) (by omega) (by omega) fun S5 ch5 => ?_)))))
  rw [aX _ _ (by rw [List.length_append]; simp)]
  exact e_tup (es_cons (e_str (es_nil ⟨one_sz, c_eqD pu_N (q _ (chd ds4 ch5) ((fr1.trans fr4).trans (chg ch5)))⟩)))
end
/-! ### a line of states -/
def stL (i : Nat) : St := ([], [i, 0])
theorem stL_inj {i j : Nat} (h : stL i = stL j) : i = j := by
  unfold stL at h
  simpa using h
def goR (w : Nat) : Row := ⟨[], [], if w = 2 then [] else [(0, 1)], if w = 2 then [(0, 1)] else []⟩
def noR : Row := ⟨[], [], [(1, 1)], []⟩
theorem no_taken (i : Nat) : takenF noR (stL i) = none := rfl
theorem no_can (i : Nat) : canF noR (stL i) = false := rfl
theorem up_taken (i : Nat) : takenF (goR 2) (stL i) = some (stL (i + 1)) := rfl
theorem go_taken0 {w : Nat} (hw : w ≠ 2) : takenF (goR w) (stL 0) = none := by
  unfold goR
  rw [if_neg hw, if_neg hw]
  rfl
theorem go_taken {w i : Nat} (hw : w ≠ 2) : takenF (goR w) (stL (i + 1)) = some (stL i) := by
  unfold goR
  rw [if_neg hw, if_neg hw]
  unfold takenF stL
  simp [fold, gK]
theorem go_can {w i : Nat} (hw : w ≠ 2) : canF (goR w) (stL i) = decide (1 ≤ i) := by
  unfold goR
  rw [if_neg hw, if_neg hw]
  unfold canF stL
  simp
theorem no_turn {α : Type} (nos : List α) (L : List St) (i : Nat) : turnU (nos.map fun _ => noR) L (stL i) = L := by
  induction nos with
  | nil => rfl
  | cons x r ih => exact ih
theorem line_turn {α : Type} (nos : List α) (L : List St) (i w : Nat) : turnU ((nos.map fun _ => noR) ++ [goR w]) L (stL i) = addN L (takenF (goR w) (stL i)) := by
  have := no_turn nos L i
  unfold turnU at *
  rw [List.foldl_append, this]
  rfl
def down (M j : Nat) : List St := (List.range (j + 1)).map fun t => stL (M - 1 - t)
def ups (M j : Nat) : List St := (List.range (j + 1)).map fun t => stL (M + t)
theorem down_run {α : Type} {nos : List α} {M w : Nat} (hw : w ≠ 2) : ∀ (n j : Nat), j < M → M - j ≤ n → runU ((nos.map fun _ => noR) ++ [goR w]) n (down M j) j = down M (M - 1)
  | 0, j, h1, h2 => by omega
  | n + 1, j, h1, h2 => by
    have hj : (down M j)[j]? = some (stL (M - 1 - j)) := by
      unfold down
      rw [List.getElem?_map, List.getElem?_range (by omega)]
      rfl
    rw [run_more hj, line_turn]
    by_cases h : M - 1 - j = 0
    · rw [h, go_taken0 hw]
      have : j = M - 1 := by omega
      subst this
      refine run_end ?_
      unfold down addN
      simp only [List.length_map, List.length_range, Nat.le_refl]
    · obtain ⟨i, hi⟩ : ∃ i, M - 1 - j = i + 1 := ⟨M - 1 - j - 1, by omega⟩
      rw [hi, go_taken hw]
      have hn : stL i ∉ down M j := fun z => by
        obtain ⟨t, ht, e⟩ := List.mem_map.mp z
        have := List.mem_range.mp ht
        have := stL_inj e
        omega
      have e : addN (down M j) (some (stL i)) = down M (j + 1) := by
        unfold addN
        dsimp only
        rw [if_neg hn]
        unfold down
        rw [List.range_succ (n := j + 1), List.map_append]
        have : i = M - 1 - (j + 1) := by omega
        rw [this]
        rfl
      rw [e]
      exact down_run hw n (j + 1) (by omega) (by omega)
theorem ups_run {α : Type} {nos : List α} {M : Nat} : ∀ (n j : Nat), (runU ((nos.map fun _ => noR) ++ [goR 2]) n (ups M j) j).length = j + 1 + n
  | 0, j => by unfold runU ups; simp
  | n + 1, j => by
    have hj : (ups M j)[j]? = some (stL (M + j)) := by
      unfold ups
      rw [List.getElem?_map, List.getElem?_range (by omega)]
      rfl
    rw [run_more hj, line_turn, up_taken]
    have hn : stL (M + j + 1) ∉ ups M j := fun z => by
      obtain ⟨t, ht, e⟩ := List.mem_map.mp z
      have := List.mem_range.mp ht
      have := stL_inj e
      omega
    have e : addN (ups M j) (some (stL (M + j + 1))) = ups M (j + 1) := by
      unfold addN
      dsimp only
      rw [if_neg hn]
      unfold ups
      rw [List.range_succ (n := j + 1), List.map_append]
      rfl
    rw [e, ups_run n (j + 1)]
    omega
def lineN (M w : Nat) (nos : List D) : Net := ⟨.tup [], .tup [.str "c", .str "e"], (nos.map fun x => (x, noR)) ++ [(.str "go/0/0", goR w)], [], if w = 1 then [5, 0] else [M - 1, 0], if w = 1 then [0] else []⟩
def lineNs (M w : Nat) : List Nat := if w = 1 then [M - 6] else []
theorem line_rs (M w : Nat) (nos : List D) : (lineN M w nos).rs = (nos.map fun _ => noR) ++ [goR w] := by
  unfold Net.rs lineN
  rw [List.map_append, List.map_map]
  rfl
theorem line_first {M w : Nat} {nos : List D} (hM : 6 ≤ M) : (lineN M w nos).first (lineNs M w) = stL (M - 1) := by
  unfold Net.first lineN lineNs stL
  dsimp only
  by_cases h : w = 1
  · rw [if_pos h, if_pos h, if_pos h]
    show ([], addF [5, 0] [(0, M - 6)]) = ([], [M - 1, 0])
    unfold addF
    simp only [fold, fK]
    show ([], [5 + (M - 6), 0]) = ([], [M - 1, 0])
    rw [show 5 + (M - 6) = M - 1 by omega]
  · rw [if_neg h, if_neg h, if_neg h]
    rfl
theorem line_len {M w : Nat} {nos : List D} : (lineNs M w).length = (lineN M w nos).added.length := by
  unfold lineN lineNs
  dsimp only
  split <;> rfl
theorem goR_ok (w : Nat) : RowOk 0 2 (goR w) := by
  unfold goR
  by_cases h : w = 2
  · rw [if_pos h, if_pos h]
    exact ⟨(fun _ z => nomatch z), (fun _ z => nomatch z), List.nodup_nil, (fun _ z => nomatch z), fun x hx => by rw [List.mem_singleton.mp hx]; decide⟩
  · rw [if_neg h, if_neg h]
    exact ⟨(fun _ z => nomatch z), (fun _ z => nomatch z), by simp, fun x hx => by rw [List.mem_singleton.mp hx]; decide, (fun _ z => nomatch z)⟩
theorem line_ok {M w : Nat} {nos : List D} (h : nos.length ≤ 10) : NetOk 0 2 (lineN M w nos) := by
  refine ⟨rfl, ?_, ?_, fun x hx => ?_, ?_, ?_⟩
  · unfold lineN
    dsimp only
    split <;> rfl
  · unfold lineN
    dsimp only
    intro a ha
    split at ha
    · rw [List.mem_singleton.mp ha]
      decide
    · cases ha
  · rcases List.mem_append.mp hx with z | z
    · obtain ⟨y, _, rfl⟩ := List.mem_map.mp z
      exact ⟨(fun _ z => nomatch z), (fun _ z => nomatch z), by simp [noR], fun x hx => by rw [List.mem_singleton.mp hx]; decide, (fun _ z => nomatch z)⟩
    · rw [List.mem_singleton.mp z]
      exact goR_ok w
  · unfold lineN
    simp
    omega
  · unfold lineN
    dsimp only
    split <;> simp
theorem line_run {M w : Nat} {nos : List D} (hM : 6 ≤ M) (hM2 : M ≤ 5000) (hw : w ≠ 2) : (lineN M w nos).run F0 (lineNs M w) = down M (M - 1) := by
  unfold Net.run
  rw [line_first hM, line_rs]
  exact down_run (nos := nos) hw F0 0 (by omega) (by unfold F0; omega)
theorem line_up {M : Nat} {nos : List D} (hM : 6 ≤ M) : ((lineN M 2 nos).run F0 (lineNs M 2)).length = 5002 := by
  unfold Net.run
  rw [line_first hM, line_rs]
  have := ups_run (nos := nos) (M := M - 1) F0 0
  unfold F0 at *
  exact this
theorem down_len (M : Nat) (h : 1 ≤ M) : (down M (M - 1)).length = M := by
  unfold down
  simp
  omega
theorem line_end {M w : Nat} {nos : List D} (hw : w ≠ 2) (i : Nat) : (lineN M w nos).end_ (stL i) = decide (i = 0) := by
  unfold Net.end_ lineN
  dsimp only
  rw [List.any_append]
  have h1 : ((nos.map fun x => (x, noR)).any fun x : D × Row => canF x.2 (stL i)) = false := by
    rw [List.any_eq_false]
    intro x hx
    obtain ⟨y, _, rfl⟩ := List.mem_map.mp hx
    rw [no_can]
    exact Bool.false_ne_true
  rw [h1, Bool.false_or]
  show (!([((D.str "go/0/0"), goR w)].any fun x : D × Row => canF x.2 (stL i))) = _
  simp only [List.any_cons, List.any_nil, Bool.or_false]
  rw [go_can hw]
  by_cases h : i = 0
  · subst h; rfl
  · rw [decide_eq_true (by omega : 1 ≤ i), decide_eq_false h]
    rfl
theorem line_tell {M w : Nat} {nos : List D} (hw : w ≠ 2) (hM : 1 ≤ M) : (lineN M w nos).tell true (down M (M - 1)) = [stL 0] := by
  unfold Net.tell
  rw [if_pos rfl]
  unfold down
  rw [List.range_succ, List.map_append, List.filter_append]
  have : (((List.range (M - 1)).map fun t => stL (M - 1 - t)).filter (lineN M w nos).end_) = [] := by
    rw [List.filter_eq_nil_iff]
    intro s hs
    obtain ⟨t, ht, rfl⟩ := List.mem_map.mp hs
    have := List.mem_range.mp ht
    rw [line_end hw, decide_eq_false (by omega)]
    exact Bool.false_ne_true
  rw [this, List.nil_append]
  show List.filter (lineN M w nos).end_ [stL (M - 1 - (M - 1))] = [stL 0]
  rw [Nat.sub_self, List.filter_cons, if_pos (by rw [line_end hw]; rfl)]
  rfl
end K24
/-! K24J: law k24, the long line. -/
namespace K24
open PySem PySem.Spec PyProof.Rows L2 MP
local macro_rules | `(tactic| walk_at "look") => `(tactic| first | assumption | exact g_last | (with_reducible apply g_set; walk_at "look") | ((with_reducible refine g_setn ?h1 ?h2); (case h1 => first | assumption | omega | (apply Ne.symm; assumption)); (case h2 => walk_at "look")) | ((with_reducible refine g_app ?_); walk_at "look") | ((with_reducible refine' Fr.get ?h1 ?h2 ?h3); (case h1 => assumption); (case h2 => first | assumption | omega | (apply Ne.symm; assumption)); (case h3 => walk_at "look")) | ((with_reducible refine' Ch.get ?h1 ?h2 ?h3); (case h1 => assumption); (case h2 => first | assumption | (simp; done) | (simp only [List.mem_cons, List.not_mem_nil, or_false, not_or]; omega)); (case h3 => walk_at "look")))
local macro_rules | `(tactic| walk_at "kn") => `(tactic| first | assumption | omega | (simp; done) | decide)
local macro_rules | `(tactic| walk_at "sz") => `(tactic| first | assumption | (rw [sizeLine_eq]; first | omega | (simp; done) | (simp; omega)))
local macro_rules | `(tactic| walk_at "at") => `(tactic| first | exact rfl | assumption)
local macro_rules | `(tactic| walk_at "mp1") => `(tactic| first
  | with_reducible refine s_cons ?_ | with_reducible refine s_nil ?_ | with_reducible refine s_nm ?_ | with_reducible refine s_ix ?_ | with_reducible refine s_asg ?_ | with_reducible refine s_ex ?_ | with_reducible refine s_iff ?_ | with_reducible refine s_ret ?_ | with_reducible refine s_for ?_
  | ((with_reducible refine' e_var ?h1 ?_); (case h1 => exact rfl)) | with_reducible refine e_int ?_ | with_reducible refine e_bin ?_ | with_reducible refine e_cmp ?_ | with_reducible refine e_ix ?_ | with_reducible refine e_call ?_ | with_reducible refine e_blt ?_ | with_reducible refine e_bl ?_ | with_reducible refine e_and ?_ | with_reducible refine e_or ?_ | with_reducible refine e_not ?_ | with_reducible refine e_ite ?_
  | with_reducible refine es_cons ?_ | with_reducible refine es_nil ?_ | with_reducible refine e_tup ?_ | with_reducible refine e_lst ?_ | with_reducible refine e_meth ?_ | with_reducible refine e_comp ?_ | with_reducible refine e_sl ?_ | with_reducible refine e_neg ?_ | with_reducible refine e_isi ?_ | with_reducible refine e_lrg ?_ | with_reducible refine e_trg ?_ | with_reducible refine e_non ?_ | with_reducible refine e_str ?_ | with_reducible refine e_fnv ?_ | with_reducible refine e_orl ?_ | with_reducible refine e_dnew ?_ | with_reducible refine e_dget ?_ | with_reducible refine e_dget2 ?_
  | with_reducible refine o_no ?_ | with_reducible refine o_so ?_ | with_reducible refine i_rng ?_ | with_reducible refine i_seq ?_ | with_reducible refine i_enum ?_ | with_reducible refine i_rngD ?_ | with_reducible refine if_nil ?_ | with_reducible refine if_cons ?_ | with_reducible refine rg_1 ?_ | with_reducible refine rg_2 ?_
  | with_reducible refine b_add ?_ | with_reducible refine b_sub ?_ | ((with_reducible refine' b_mul ?h1 ?_); (case h1 => first | assumption | mul_fits)) | ((with_reducible refine' b_fdiv ?h1 ?h2 ?_); (case h1 => walk_at "kn"); (case h2 => first | assumption | decide)) | ((with_reducible refine' b_mod ?h1 ?_); (case h1 => walk_at "kn")) | ((with_reducible refine' b_pow ?h1 ?_); (case h1 => first | assumption | exact ⟨by decide, by decide, by decide⟩)) | ((with_reducible refine' b_shr ?h1 ?_); (case h1 => walk_at "kn")) | ((with_reducible refine' b_shl ?h1 ?_); (case h1 => assumption)) | with_reducible refine b_and ?_ | with_reducible refine b_or ?_ | with_reducible refine b_xor ?_
  | with_reducible refine c_lt ?_ | with_reducible refine c_le ?_ | with_reducible refine c_gt ?_ | with_reducible refine c_ge ?_ | with_reducible refine c_eqi ?_ | with_reducible refine c_nei ?_ | with_reducible refine c_eqb ?_ | with_reducible refine c_neb ?_ | with_reducible refine c_eqs ?_ | with_reducible refine c_nes ?_
  | with_reducible refine t_bl ?_ | with_reducible refine t_int ?_ | with_reducible refine t_tup ?_ | with_reducible refine t_non ?_
  | ((with_reducible refine' x_ref ?h1 ?h2 ?_); (case h1 => walk_at "look"); (case h2 => walk_at "at")) | ((with_reducible refine' x_tup ?h1 ?_); (case h1 => walk_at "at")) | ((with_reducible refine' x_klst ?h1 ?_); (case h1 => walk_at "at"))
  | ((with_reducible refine' set_ref ?h1 ?h2 ?_); (case h1 => walk_at "look"); (case h2 => walk_at "at"))
  | ((with_reducible refine' f_lenr ?h1 ?_); (case h1 => walk_at "look")) | with_reducible refine f_lent ?_ | with_reducible refine f_lenk ?_ | with_reducible refine f_int ?_ | ((with_reducible refine' f_listr ?h1 ?_); (case h1 => walk_at "look")) | with_reducible refine f_listt ?_ | with_reducible refine f_listk ?_ | ((with_reducible refine' f_tupr ?h1 ?_); (case h1 => walk_at "look")) | with_reducible refine f_tupt ?_ | with_reducible refine f_max ?_ | with_reducible refine f_min ?_
  | with_reducible refine sl_klst ?_ | ((with_reducible refine' sl_ref ?h1 ?_); (case h1 => walk_at "look")) | with_reducible refine sl_tup ?_
  | ((with_reducible refine' m_app ?h1 ?h2 ?_); (case h1 => walk_at "look"); (case h2 => walk_at "sz")) | ((with_reducible refine' m_ext ?h1 ?h2 ?h3 ?_); (case h1 => walk_at "look"); (case h2 => walk_at "look"); (case h3 => walk_at "sz")) | ((with_reducible refine' m_extT ?h1 ?h3 ?_); (case h1 => walk_at "look"); (case h3 => walk_at "sz"))
  | with_reducible refine k_t ?_ | with_reducible refine k_f ?_ | with_reducible refine k_nt ?_ | with_reducible refine k_nf ?_
  | ((with_reducible refine' d_t ?h1 ?_); (case h1 => first | assumption | omega)) | ((with_reducible refine' d_f ?h1 ?_); (case h1 => first | assumption | omega)) | ((with_reducible refine' d_nt ?h1 ?_); (case h1 => first | assumption | omega)) | ((with_reducible refine' d_nf ?h1 ?_); (case h1 => first | assumption | omega))
  | ((with_reducible refine' And.intro (r_lst ?h1 ?h2) ?_); (case h1 => decide); (case h2 => walk_at "look")) | (with_reducible refine And.intro r_int ?_)
  | ((with_reducible refine And.intro ?h1 ?_); (case h1 => (with_reducible show List.length _ ≤ sizeLine); walk_at "sz"))
  | dsimp only
  | dsimp only [isTy_int, isTy_bl, isTy_str, isTy_non, isTy_tup])
local macro_rules | `(tactic| walk_at "mp") => `(tactic| repeat walk_at "mp1")
local macro_rules | `(tactic| walk_at "tx1") => `(tactic| first
  | walk_at "mp1"
  | with_reducible refine e_cst ?_ | ((with_reducible refine' f_lens ?h1 ?_); (case h1 => walk_at "sz"))
  | ((with_reducible refine' x_str ?h1 ?h2 ?_); (case h1 => walk_at "sz"); (case h2 => walk_at "at"))
  | ((with_reducible refine' sl_str' ?h1 ?_); (case h1 => walk_at "sz")))
local macro_rules | `(tactic| walk_at "tx") => `(tactic| repeat walk_at "tx1")

theorem cut_last {α : Type} (l : List α) (x : α) : MP.cutD (l ++ [x]) (some (-1)) none = [x] := by
  unfold MP.cutD
  have h1 : HT.sIx (l ++ [x]).length (l ++ [x]).length none = (l ++ [x]).length := rfl
  have h2 : HT.sIx (l ++ [x]).length 0 (some (-1)) = l.length := by
    show (if (-1 : Int) < 0 then ((-1 : Int) + ((l ++ [x]).length : Int)).toNat else min (-1 : Int).toNat (l ++ [x]).length) = _
    rw [if_pos (by decide), List.length_append]
    simp
    omega
  rw [h1, h2, List.drop_left]
  simp
theorem lineN_n {M w : Nat} {nos : List D} (h : w ≠ 1) : lineN M w nos = ⟨.tup [], .tup [.str "c", .str "e"], (nos.map fun x => (x, noR)) ++ [(.str "go/0/0", goR w)], [], [M - 1, 0], []⟩ := by
  unfold lineN
  rw [if_neg h, if_neg h]
theorem line_rD (M w : Nat) (nos : List D) : (lineN M w nos).rD = (nos.map fun x => rD x noR) ++ [rD (.str "go/0/0") (goR w)] := by
  unfold Net.rD lineN
  rw [List.map_append, List.map_map]
  rfl
theorem goR_p {w : Nat} (h : w ≠ 2) : goR w = ⟨[], [], [(0, 1)], []⟩ := by unfold goR; rw [if_neg h, if_neg h]
section
variable {k a b : Nat} {S : Sto} {Q : KD} {E : Ex → Sto → Prop}
set_option maxHeartbeats 2000000 in
theorem long_ok (hk : 9 ≤ k) (ds : DS S a b) (q : ∀ S', Q (.bl true) S') : C k f_law_long_line [.ref a] S Q E := by
  obtain ⟨k, rfl⟩ := up (n := 3) (by omega : 3 ≤ k)
  refine c_law_long_line (k := k + 2) ?_
  unfold b_law_long_line
  have hF0 : F0 = 5001 := rfl
  refine s_cons (s_nm (e_bin (e_int (e_call (es_cons (e_var rfl (es_cons (e_int (es_nil (draw_nat (by omega) ds (n := 4) (by decide) (by decide) rfl fun v S1 hv ds1 fr1 => b_add ?_))))))))))
  obtain ⟨M, hM⟩ : ∃ M, M = v + 2999 := ⟨_, rfl⟩
  rw [show (2999 : Int) + (v : Nat) = ((M : Nat) : Int) by omega]
  dsimp only [List.set]
  refine s_cons (s_nm (e_call (es_cons (e_var rfl (es_cons (e_int (es_nil (draw_nat (by omega) ds1 (n := 3) (by decide) (by decide) rfl fun w S2 hw ds2 fr2 => ?_))))))))
  dsimp only [List.set]
  refine s_cons (s_nm (e_comp (i_rng (es_cons (e_call (es_cons (e_var rfl (es_cons (e_int (es_nil (draw_nat (by omega) ds2 (n := 3) (by decide) (by decide) rfl fun cc S3 hcc ds3 fr3 => es_nil (rg_1 ⟨rg_ok (by omega), by rw [rgD_len, sizeLine_eq]; omega, ?_⟩))))))))))))
  clear ds ds1 ds2 ds3 fr1 fr2 fr3
  rw [rgD_map]
  refine comp_map (fun x : Nat => D.int (x : Nat)) (fun x => rD (.str (("no/" : Str) ++ ts x ++ ("/0" : Str))) noR) gd_nil (xs := List.range cc) (fun x hx K hK => ?_) ?_
  · have hx := List.mem_range.mp hx
    have lt := ts_len (n := x) (by omega)
    have e1 : ("no/" : Str).length = 3 := by decide +kernel
    have e2 : ("/0" : Str).length = 2 := by decide +kernel
    refine cmp_nm (if_nil (k_t (e_tup (es_cons (e_bin (e_bin (e_str (e_blt (es_cons (e_var rfl (es_nil (f_ts (by omega) (b_adds ?_ (e_str (b_adds ?_ (es_cons (e_tup (es_nil ⟨by decide, es_cons (e_tup (es_nil ⟨by decide, es_cons (e_tup (es_cons (e_tup (es_cons (e_int (es_cons (e_int (es_nil ⟨two_sz, es_nil ⟨one_sz, es_cons (e_tup (es_nil ⟨by decide, es_nil ⟨(by show (5 : Nat) ≤ sizeLine; decide), hK⟩⟩))⟩⟩))))))))⟩))⟩))))))))))))))))))
    · rw [e1, sizeLine_eq]; omega
    · rw [app_len, e1, e2, sizeLine_eq]; omega
  obtain ⟨nos, hnos⟩ : ∃ nos : List D, nos = (List.range cc).map fun x => D.str (("no/" : Str) ++ ts x ++ ("/0" : Str)) := ⟨_, rfl⟩
  have e0 : ((List.range cc).map fun x => rD (.str (("no/" : Str) ++ ts x ++ ("/0" : Str))) noR) = nos.map fun x => rD x noR := by rw [hnos, List.map_map]; rfl
  have ln : nos.length ≤ 2 := by rw [hnos, List.length_map, List.length_range]; omega
  rw [e0]
  clear hnos e0
  dsimp only [List.set]
  have gr : (S3 ++ [MP.O.lst (nos.map fun x => rD x noR)])[S3.length]? = some (.lst (nos.map fun x => rD x noR)) := g_last
  generalize S3 ++ [MP.O.lst (nos.map fun x => rD x noR)] = S4 at gr ⊢
  generalize (S3.length : Nat) = r at gr ⊢
  refine s_mid (hC _) (fun σ S' => S' = S4 ∧ σ = [some (.ref a), some (.int (M : Nat)), some (.int (w : Nat)), some (.ref r), some (psD (goR w).p), none, none, none, none, none]) (s_nm (e_ite (e_cmp (e_var rfl (e_int (c_eqi (t_bl (d_2 (fun h => ?_) fun h => ?_)))))))) fun σ S5 h => ?_
  · have hw2 : w = 2 := by omega
    subst hw2
    exact e_tup (es_cons (e_tup (es_cons (e_int (es_cons (e_int (es_nil ⟨two_sz, es_nil ⟨one_sz, ⟨rfl, rfl⟩⟩⟩)))))))
  · have hw2 : w ≠ 2 := by omega
    rw [goR_p hw2]
    exact e_tup (es_nil ⟨by decide, ⟨rfl, rfl⟩⟩)
  obtain ⟨rfl, rfl⟩ := h
  refine s_mid (hC _) (fun σ S' => σ = [some (.ref a), some (.int (M : Nat)), some (.int (w : Nat)), some (.tup (lineN M w nos).rD), some (psD (goR w).p), none, none, none, none, none]) (s_nm (e_blt (es_cons (e_bin (e_var rfl (e_lst (es_cons (e_tup (es_cons (e_str (es_cons (e_tup (es_nil ⟨by decide, es_cons (e_tup (es_nil ⟨by decide, es_cons (e_ite (e_cmp (e_var rfl (e_int (c_eqi (t_bl (d_2 (fun h => ?_) fun h => ?_)))))))⟩))⟩))))))))))))) fun σ S6 h => ?_
  · have hw2 : w = 2 := by omega
    subst hw2
    refine e_tup (es_nil ⟨by decide, es_cons (e_var rfl (es_nil ⟨(by show (5 : Nat) ≤ sizeLine; decide), es_nil ⟨one_sz, b_addl (g_app gr) g_last (by rw [List.length_map, sizeLine_eq]; simp; omega) (es_nil (f_tupr g_last ?_))⟩⟩))⟩)
    rw [line_rD]
    rfl
  · have hw2 : w ≠ 2 := by omega
    refine e_tup (es_cons (e_tup (es_cons (e_int (es_cons (e_int (es_nil ⟨two_sz, es_nil ⟨one_sz, es_cons (e_var rfl (es_nil ⟨(by show (5 : Nat) ≤ sizeLine; decide), es_nil ⟨one_sz, b_addl (g_app gr) g_last (by rw [List.length_map, sizeLine_eq]; simp; omega) (es_nil (f_tupr g_last ?_))⟩⟩))⟩⟩)))))))
    rw [line_rD, goR_p hw2]
    rfl
  subst h
  clear gr
  refine s_mid (hC _) (fun σ S' => ∃ n, S'[n]? = some (.ins 0 (lineN M w nos).fs) ∧ σ = [some (.ref a), some (.int (M : Nat)), some (.int (w : Nat)), some (.tup (lineN M w nos).rD), some (psD (goR w).p), some (.ref n), none, none, none, none]) (s_nm (e_ite (e_cmp (e_var rfl (e_int (c_eqi (t_bl (d_2 (fun h => ?_) fun h => ?_)))))))) fun σ S7 h => ?_
  · have hw1 : w = 1 := by omega
    subst hw1
    exact e_make ex_no (es_cons (e_tup (es_nil ⟨by decide, es_cons (e_tup (es_cons (e_str (es_cons (e_str (es_nil ⟨two_sz, es_cons (e_var rfl (es_cons (e_tup (es_nil ⟨by decide, es_cons (e_tup (es_cons (e_int (es_cons (e_int (es_nil ⟨two_sz, es_cons (e_tup (es_cons (e_int (es_nil ⟨one_sz, es_nil ⟨rfl, ⟨_, g_last, rfl⟩⟩⟩))))⟩))))))⟩))))⟩))))))⟩)))
  · have hw1 : w ≠ 1 := by omega
    refine e_make ex_no (es_cons (e_tup (es_nil ⟨by decide, es_cons (e_tup (es_cons (e_str (es_cons (e_str (es_nil ⟨two_sz, es_cons (e_var rfl (es_cons (e_tup (es_nil ⟨by decide, es_cons (e_tup (es_cons (e_bin (e_var rfl (e_int (b_sub (es_cons (e_int (es_nil ⟨two_sz, es_cons (e_tup (es_nil ⟨by decide, es_nil ⟨rfl, ⟨_, ?_, rfl⟩⟩⟩))⟩)))))))))⟩))))⟩))))))⟩)))
    rw [show (M : Int) - 1 = ((M - 1 : Nat) : Int) by omega]
    have e : (lineN M w nos).fs = [(("variables" : Str), D.tup []), ("counters", .tup [.str "c", .str "e"]), ("rows", .tup (lineN M w nos).rD), ("start", .tup []), ("counts", .tup [.int (M - 1 : Nat), .int 0]), ("added", .tup [])] := by
      rw [lineN_n hw1]
      rfl
    rw [e]
    exact g_last
  obtain ⟨n, g, rfl⟩ := h
  refine s_mid (hC _) (fun σ S' => S' = S7 ∧ σ = [some (.ref a), some (.int (M : Nat)), some (.int (w : Nat)), some (.tup (lineN M w nos).rD), some (psD (goR w).p), some (.ref n), some (tN (lineNs M w)), none, none, none]) (s_nm (e_ite (e_cmp (e_var rfl (e_int (c_eqi (t_bl (d_2 (fun h => ?_) fun h => ?_)))))))) fun σ S8 h => ?_
  · have hw1 : w = 1 := by omega
    subst hw1
    refine e_tup (es_cons (e_bin (e_var rfl (e_int (b_sub (es_nil ⟨one_sz, ⟨rfl, ?_⟩⟩))))))
    rw [show (M : Int) - 6 = ((M - 6 : Nat) : Int) by omega]
    rfl
  · have hw1 : w ≠ 1 := by omega
    have e : lineNs M w = [] := by unfold lineNs; rw [if_neg hw1]
    rw [e]
    exact e_tup (es_nil ⟨by decide, ⟨rfl, rfl⟩⟩)
  obtain ⟨rfl, rfl⟩ := h
  have O := line_ok (M := M) (w := w) (nos := nos) (by omega)
  have hl := line_len (M := M) (w := w) (nos := nos)
  refine s_cons (s_nm (e_lst (es_cons (e_call (es_cons (e_var rfl (es_cons (e_var rfl (es_cons (e_non (es_cons (e_bl (es_nil (ans_ok (F := F0) (by omega) g O (.inl ⟨rfl, rfl⟩) (by omega) (by omega) (by omega) fun S9 ch9 => ?_))))))))))))))
  have g9 := ch9.get (fun z => nomatch z) g
  refine es_cons (e_call (es_cons (e_var rfl (es_cons (e_var rfl (es_cons (e_non (es_cons (e_bl (es_nil (ans_ok (F := F0) (by omega) g9 O (.inl ⟨rfl, rfl⟩) (by omega) (by omega) (by omega) fun S10 ch10 => es_nil ⟨two_sz, ?_⟩)))))))))))
  have g10 := g_app (l := [MP.O.lst [(lineN M w nos).ans F0 3000 (lineNs M w) false, (lineN M w nos).ans F0 3000 (lineNs M w) true]]) (ch10.get (fun z => nomatch z) g9)
  have gt : (S10 ++ [MP.O.lst [(lineN M w nos).ans F0 3000 (lineNs M w) false, (lineN M w nos).ans F0 3000 (lineNs M w) true]])[S10.length]? = some (.lst [(lineN M w nos).ans F0 3000 (lineNs M w) false, (lineN M w nos).ans F0 3000 (lineNs M w) true]) := g_last
  generalize (S10 ++ [MP.O.lst [(lineN M w nos).ans F0 3000 (lineNs M w) false, (lineN M w nos).ans F0 3000 (lineNs M w) true]]) = S11 at g10 gt ⊢
  generalize (S10.length : Nat) = t at gt ⊢
  clear g9 g ch9 ch10
  dsimp only [List.set]
  have aS' : ∀ m e, m < ((lineN M w nos).run F0 (lineNs M w)).length → (lineN M w nos).ans F0 m (lineNs M w) e = aS := fun m e hm => by
    unfold Net.ans
    rw [if_pos hl, if_neg (by omega)]
  have retA : 3000 < ((lineN M w nos).run F0 (lineNs M w)).length → wpSs (C (k + 2)) (.cons (.ret (.and (.cmp .eq (.var 7) (.lst (.cons (.tup (.cons (.str "states") .nil)) (.cons (.tup (.cons (.str "states") .nil)) .nil)))) (.cmp .eq (.call f_law_answered (.cons (.var 5) (.cons (.var 6) (.cons (.int 90) (.cons (.bl false) .nil))))) (.tup (.cons (.str "states") .nil))))) .nil) (eG Q E) [some (.ref a), some (.int (M : Nat)), some (.int (w : Nat)), some (.tup (lineN M w nos).rD), some (psD (goR w).p), some (.ref n), some (tN (lineNs M w)), some (.ref t), none, none] S11 := fun hlt => by
    rw [aS' 3000 false hlt, aS' 3000 true hlt] at gt
    refine s_cons (s_ret (e_and (e_cmp (e_var rfl (e_lst (es_cons (e_tup (es_cons (e_str (es_nil ⟨one_sz, es_cons (e_tup (es_cons (e_str (es_nil ⟨one_sz, es_nil ⟨two_sz, ?_⟩⟩))))⟩))))))))))
    have hpu : ∀ v ∈ [aS, aS], puD 40 v = true := fun v hv => by
      simp only [List.mem_cons, List.not_mem_nil, or_false, or_self] at hv
      rw [hv]
      exact pu_S
    obtain ⟨d, hx, hy, sh, eq⟩ := same_eq hpu (g_app (l := [MP.O.lst [aS, aS]]) gt) (g_last (S := S11) (o := MP.O.lst [aS, aS]))
    refine c_eqd hx hy sh sh ?_
    rw [eq]
    refine t_bl (k_t (e_cmp (e_call (es_cons (e_var rfl (es_cons (e_var rfl (es_cons (e_int (es_cons (e_bl (es_nil (ans_ok (F := F0) (m := 90) (by omega) (g_app g10) O (.inr rfl) (by omega) (by omega) (by omega) fun S12 ch12 => ?_)))))))))))))
    rw [aS' 90 false (by omega)]
    exact e_tup (es_cons (e_str (es_nil ⟨one_sz, c_eqD pu_S (q _)⟩)))
  refine s_cons (s_iff (e_or (e_cmp (e_var rfl (e_int (c_eqi (t_bl (d_2 (fun h => ?_) fun h => ?_))))))))
  · refine t_bl (d_t h ?_)
    have hw2 : w = 2 := by omega
    subst hw2
    exact retA (by rw [line_up (by omega)]; omega)
  have hw2 : w ≠ 2 := by omega
  have er := line_run (nos := nos) (by omega : 6 ≤ M) (by omega) hw2
  have el := down_len M (by omega)
  refine e_cmp (e_var rfl (e_int (c_gt (t_bl (d_2 (fun h3 => ?_) fun h3 => ?_)))))
  · exact retA (by rw [er, el]; omega)
  refine s_nil ?_
  have eF : (lineN M w nos).ans F0 3000 (lineNs M w) false = aT (down M (M - 1)) := by
    unfold Net.ans
    rw [if_pos hl, er, if_pos (by omega)]
    rfl
  have eT : (lineN M w nos).ans F0 3000 (lineNs M w) true = aT [stL 0] := by
    unfold Net.ans
    rw [if_pos hl, er, if_pos (by omega), line_tell hw2 (by omega)]
  rw [eF, eT] at gt
  refine s_cons (s_nm (e_blt (es_cons (e_comp (i_rng (es_cons (e_var rfl (es_nil (rg_1 ⟨rg_ok (by omega), by rw [rgD_len, sizeLine_eq]; omega, ?_⟩)))))))))
  rw [rgD_map]
  refine comp_map (fun x : Nat => D.int (x : Nat)) (fun x => stD (stL (M - 1 - x))) gd_nil (xs := List.range M) (fun x hx K hK => ?_) ?_
  · have hx := List.mem_range.mp hx
    refine cmp_nm (if_nil (k_t (e_tup (es_cons (e_tup (es_nil ⟨by decide, es_cons (e_tup (es_cons (e_bin (e_bin (e_var rfl (e_int (b_sub (e_var rfl (b_sub (es_cons (e_int (es_nil ⟨two_sz, es_nil ⟨two_sz, ?_⟩⟩))))))))))))⟩))))))
    rw [show (M : Int) - 1 - (x : Nat) = ((M - 1 - x : Nat) : Int) by omega]
    exact hK
  have ed : ((List.range M).map fun x => stD (stL (M - 1 - x))) = (down M (M - 1)).map stD := by
    unfold down
    rw [List.map_map, show M - 1 + 1 = M by omega]
    rfl
  rw [ed]
  have gt2 := g_app (l := [MP.O.lst ((down M (M - 1)).map stD)]) gt
  refine es_nil (f_tupr g_last ?_)
  dsimp only [List.set]
  refine s_cons (s_ret (e_and (e_call (es_cons (e_ix (e_var rfl (e_int (x_ref gt2 rfl (es_cons (e_var rfl (es_nil (same_ok (by omega) (by omega) fun S12 ch12 => t_bl (k_t ?_)))))))))))))
  refine e_call (es_cons (e_ix (e_var rfl (e_int (x_ref (ch12.get (fun z => nomatch z) gt2) rfl (es_cons (e_sl (e_var rfl (o_so (e_neg (e_int ?_)))))))))))
  dsimp only
  refine o_no (sl_tup ?_)
  have ec : MP.cutD ((down M (M - 1)).map stD) (some (-1)) none = [stL 0].map stD := by
    unfold down
    rw [List.range_succ, List.map_append, List.map_append]
    show MP.cutD (_ ++ [stD (stL (M - 1 - (M - 1)))]) (some (-1)) none = [stD (stL 0)]
    rw [cut_last, Nat.sub_self]
  rw [ec]
  exact es_nil (same_ok (L := [stL 0]) (by omega) (by decide) fun S13 ch13 => q _)
end
end K24
/-! K24Law: law k24 holds. -/
namespace K24
open PySem PySem.Spec PyProof.Rows L2 MP
local macro_rules | `(tactic| walk_at "look") => `(tactic| first | assumption | exact g_last | (with_reducible apply g_set; walk_at "look") | ((with_reducible refine g_setn ?h1 ?h2); (case h1 => first | assumption | omega | (apply Ne.symm; assumption)); (case h2 => walk_at "look")) | ((with_reducible refine g_app ?_); walk_at "look") | ((with_reducible refine' Fr.get ?h1 ?h2 ?h3); (case h1 => assumption); (case h2 => first | assumption | omega | (apply Ne.symm; assumption)); (case h3 => walk_at "look")) | ((with_reducible refine' Ch.get ?h1 ?h2 ?h3); (case h1 => assumption); (case h2 => first | assumption | (simp; done) | (simp only [List.mem_cons, List.not_mem_nil, or_false, not_or]; omega)); (case h3 => walk_at "look")))
local macro_rules | `(tactic| walk_at "kn") => `(tactic| first | assumption | omega | (simp; done) | decide)
local macro_rules | `(tactic| walk_at "sz") => `(tactic| first | assumption | (rw [sizeLine_eq]; first | omega | (simp; done) | (simp; omega)))
local macro_rules | `(tactic| walk_at "at") => `(tactic| first | exact rfl | assumption)
local macro_rules | `(tactic| walk_at "mp1") => `(tactic| first
  | with_reducible refine s_cons ?_ | with_reducible refine s_nil ?_ | with_reducible refine s_nm ?_ | with_reducible refine s_ix ?_ | with_reducible refine s_asg ?_ | with_reducible refine s_ex ?_ | with_reducible refine s_iff ?_ | with_reducible refine s_ret ?_ | with_reducible refine s_for ?_
  | ((with_reducible refine' e_var ?h1 ?_); (case h1 => exact rfl)) | with_reducible refine e_int ?_ | with_reducible refine e_bin ?_ | with_reducible refine e_cmp ?_ | with_reducible refine e_ix ?_ | with_reducible refine e_call ?_ | with_reducible refine e_blt ?_ | with_reducible refine e_bl ?_ | with_reducible refine e_and ?_ | with_reducible refine e_or ?_ | with_reducible refine e_not ?_ | with_reducible refine e_ite ?_
  | with_reducible refine es_cons ?_ | with_reducible refine es_nil ?_ | with_reducible refine e_tup ?_ | with_reducible refine e_lst ?_ | with_reducible refine e_meth ?_ | with_reducible refine e_comp ?_ | with_reducible refine e_sl ?_ | with_reducible refine e_neg ?_ | with_reducible refine e_isi ?_ | with_reducible refine e_lrg ?_ | with_reducible refine e_trg ?_ | with_reducible refine e_non ?_ | with_reducible refine e_str ?_ | with_reducible refine e_fnv ?_ | with_reducible refine e_orl ?_ | with_reducible refine e_dnew ?_ | with_reducible refine e_dget ?_ | with_reducible refine e_dget2 ?_
  | with_reducible refine o_no ?_ | with_reducible refine o_so ?_ | with_reducible refine i_rng ?_ | with_reducible refine i_seq ?_ | with_reducible refine i_enum ?_ | with_reducible refine i_rngD ?_ | with_reducible refine if_nil ?_ | with_reducible refine if_cons ?_ | with_reducible refine rg_1 ?_ | with_reducible refine rg_2 ?_
  | with_reducible refine b_add ?_ | with_reducible refine b_sub ?_ | ((with_reducible refine' b_mul ?h1 ?_); (case h1 => first | assumption | mul_fits)) | ((with_reducible refine' b_fdiv ?h1 ?h2 ?_); (case h1 => walk_at "kn"); (case h2 => first | assumption | decide)) | ((with_reducible refine' b_mod ?h1 ?_); (case h1 => walk_at "kn")) | ((with_reducible refine' b_pow ?h1 ?_); (case h1 => first | assumption | exact ⟨by decide, by decide, by decide⟩)) | ((with_reducible refine' b_shr ?h1 ?_); (case h1 => walk_at "kn")) | ((with_reducible refine' b_shl ?h1 ?_); (case h1 => assumption)) | with_reducible refine b_and ?_ | with_reducible refine b_or ?_ | with_reducible refine b_xor ?_
  | with_reducible refine c_lt ?_ | with_reducible refine c_le ?_ | with_reducible refine c_gt ?_ | with_reducible refine c_ge ?_ | with_reducible refine c_eqi ?_ | with_reducible refine c_nei ?_ | with_reducible refine c_eqb ?_ | with_reducible refine c_neb ?_ | with_reducible refine c_eqs ?_ | with_reducible refine c_nes ?_
  | with_reducible refine t_bl ?_ | with_reducible refine t_int ?_ | with_reducible refine t_tup ?_ | with_reducible refine t_non ?_
  | ((with_reducible refine' x_ref ?h1 ?h2 ?_); (case h1 => walk_at "look"); (case h2 => walk_at "at")) | ((with_reducible refine' x_tup ?h1 ?_); (case h1 => walk_at "at")) | ((with_reducible refine' x_klst ?h1 ?_); (case h1 => walk_at "at"))
  | ((with_reducible refine' set_ref ?h1 ?h2 ?_); (case h1 => walk_at "look"); (case h2 => walk_at "at"))
  | ((with_reducible refine' f_lenr ?h1 ?_); (case h1 => walk_at "look")) | with_reducible refine f_lent ?_ | with_reducible refine f_lenk ?_ | with_reducible refine f_int ?_ | ((with_reducible refine' f_listr ?h1 ?_); (case h1 => walk_at "look")) | with_reducible refine f_listt ?_ | with_reducible refine f_listk ?_ | ((with_reducible refine' f_tupr ?h1 ?_); (case h1 => walk_at "look")) | with_reducible refine f_tupt ?_ | with_reducible refine f_max ?_ | with_reducible refine f_min ?_
  | with_reducible refine sl_klst ?_ | ((with_reducible refine' sl_ref ?h1 ?_); (case h1 => walk_at "look")) | with_reducible refine sl_tup ?_
  | ((with_reducible refine' m_app ?h1 ?h2 ?_); (case h1 => walk_at "look"); (case h2 => walk_at "sz")) | ((with_reducible refine' m_ext ?h1 ?h2 ?h3 ?_); (case h1 => walk_at "look"); (case h2 => walk_at "look"); (case h3 => walk_at "sz")) | ((with_reducible refine' m_extT ?h1 ?h3 ?_); (case h1 => walk_at "look"); (case h3 => walk_at "sz"))
  | with_reducible refine k_t ?_ | with_reducible refine k_f ?_ | with_reducible refine k_nt ?_ | with_reducible refine k_nf ?_
  | ((with_reducible refine' d_t ?h1 ?_); (case h1 => first | assumption | omega)) | ((with_reducible refine' d_f ?h1 ?_); (case h1 => first | assumption | omega)) | ((with_reducible refine' d_nt ?h1 ?_); (case h1 => first | assumption | omega)) | ((with_reducible refine' d_nf ?h1 ?_); (case h1 => first | assumption | omega))
  | ((with_reducible refine' And.intro (r_lst ?h1 ?h2) ?_); (case h1 => decide); (case h2 => walk_at "look")) | (with_reducible refine And.intro r_int ?_)
  | ((with_reducible refine And.intro ?h1 ?_); (case h1 => (with_reducible show List.length _ ≤ sizeLine); walk_at "sz"))
  | dsimp only
  | dsimp only [isTy_int, isTy_bl, isTy_str, isTy_non, isTy_tup])
local macro_rules | `(tactic| walk_at "mp") => `(tactic| repeat walk_at "mp1")
local macro_rules | `(tactic| walk_at "tx1") => `(tactic| first
  | walk_at "mp1"
  | with_reducible refine e_cst ?_ | ((with_reducible refine' f_lens ?h1 ?_); (case h1 => walk_at "sz"))
  | ((with_reducible refine' x_str ?h1 ?h2 ?_); (case h1 => walk_at "sz"); (case h2 => walk_at "at"))
  | ((with_reducible refine' sl_str' ?h1 ?_); (case h1 => walk_at "sz")))
local macro_rules | `(tactic| walk_at "tx") => `(tactic| repeat walk_at "tx1")

theorem g_lastS {S : Sto} {d : Nat} {x o : MP.O} : (S.set d x ++ [o])[S.length]? = some o := by
  have := g_last (S := S.set d x) (o := o)
  rw [List.length_set] at this
  exact this
set_option maxHeartbeats 4000000 in
theorem law_ok : LawOk es 40 flaw := by
  intro ns0 hl0
  refine claw (k := 39) ?_
  unfold blaw
  have hF0 : F0 = 5001 := rfl
  refine s_cons (s_nm (e_call (es_cons (e_var rfl (es_nil (c_law_begin (k := 38) (begin_ok fun S1 ds1 _ => ?_)))))))
  have ha : ([] : Sto).length + 2 = 2 := rfl
  have hb : ([] : Sto).length + 1 = 1 := rfl
  rw [ha, hb] at ds1
  generalize ([] : Sto).length + 2 = a at ha ⊢
  subst ha
  dsimp only [List.set]
  refine s_cons (s_nm (e_call (es_cons (e_var rfl (es_cons (e_int (es_nil (draw_nat (by omega) ds1 (n := 8) (by decide) (by decide) rfl fun way S2 hway ds2 fr2 => ?_))))))))
  dsimp only [List.set]
  clear ds1 fr2
  refine s_cons (s_iff (e_cmp (e_var rfl (e_int (c_eqi (t_bl (d_2 (fun h => ?_) fun h => ?_)))))))
  · exact s_cons (s_ret (e_call (es_cons (e_var rfl (es_nil (long_ok (by omega) ds2 fun S' => rfl))))))
  refine s_nil ?_
  clear h
  refine s_mid (hC 39) (fun σ S' => ∃ (N : Net) (nv nc : Nat), NetOk nv nc N ∧ DS S' 2 1 ∧ σ = [some (.klst (ns0.map .int)), some (.ref 2), some (.int (way : Nat)), some (netD N), none, none, none, none, none, none, none, none, none, none]) (s_nm (e_ite (e_cmp (e_var rfl (e_int (c_gt (t_bl (d_2 (fun h => ?_) fun h => ?_)))))))) fun σ S3 h => ?_
  · exact e_call (es_cons (e_var rfl (es_nil (rings_ok (by omega) ds2 fun N nv nc S' O _ ds' _ => ⟨N, nv, nc, O, ds', rfl⟩))))
  · exact e_call (es_cons (e_var rfl (es_cons (e_int (es_cons (e_int (es_cons (e_int (es_nil (parts_ok (by omega) ds2 fun N nv nc S' O _ ds' _ => ⟨N, nv, nc, O, ds', rfl⟩))))))))))
  clear ds2 S2
  obtain ⟨N, nv, nc, O, ds3, rfl⟩ := h
  refine s_mid (hC 39) (fun σ S' => ∃ (rows : List (D × Row)), NetOk nv nc ⟨N.vs, N.cs, rows, N.start, N.counts, N.added⟩ ∧ DS S' 2 1 ∧ σ = [some (.klst (ns0.map .int)), some (.ref 2), some (.int (way : Nat)), some (netD N), some (.tup (rows.map fun x => rD x.1 x.2)), none, none, none, none, none, none, none, none, none]) (s_nm (e_ite (e_cmp (e_call (es_cons (e_var rfl (es_cons (e_int (es_nil (draw_nat (by omega) ds3 (n := 24) (by decide) (by decide) rfl fun w S4 hw ds4 fr4 => e_int (c_eqi (t_bl (d_2 (fun h => ?_) fun h => ?_))))))))))))) fun σ S4 h => ?_
  · exact e_tup (es_nil ⟨by decide, ⟨[], ⟨O.ls, O.lc, O.ra, (fun _ z => nomatch z), Nat.zero_le _, O.la⟩, ds4, rfl⟩⟩)
  · exact e_ix (e_var rfl (e_int (x_tup rfl ⟨N.rows, O, ds4, rfl⟩)))
  clear ds3 S3
  obtain ⟨rows, O', ds4, rfl⟩ := h
  clear O
  obtain ⟨N', hN'⟩ : ∃ N' : Net, N' = ⟨N.vs, N.cs, rows, N.start, N.counts, N.added⟩ := ⟨_, rfl⟩
  rw [← hN'] at O'
  refine s_cons (s_nm (e_make ex_no (es_cons (e_ix (e_var rfl (e_int (x_tup rfl (es_cons (e_ix (e_var rfl (e_int (x_tup rfl (es_cons (e_var rfl (es_cons (e_ix (e_var rfl (e_int (x_tup rfl (es_cons (e_ix (e_var rfl (e_int (x_tup rfl (es_cons (e_ix (e_var rfl (e_int (x_tup rfl (es_nil ⟨rfl, ?_⟩))))))))))))))))))))))))))))))
  have eN : ([("variables" : Str), "counters", "rows", "start", "counts", "added"].zip [N.vs, N.cs, .tup (rows.map fun x => rD x.1 x.2), tN N.start, tN N.counts, tN N.added]) = N'.fs := by rw [hN']; rfl
  rw [eN]
  have ea : N.added = N'.added := by rw [hN']
  clear eN hN'
  dsimp only [List.set]
  have g : (S4 ++ [MP.O.ins 0 N'.fs])[S4.length]? = some (.ins 0 N'.fs) := g_last
  have na : S4.length ≠ 2 := by have := ds4.lta; omega
  have nb : S4.length ≠ 1 := by have := ds4.ltb; omega
  replace ds4 := ds4.app (l := [MP.O.ins 0 N'.fs])
  generalize S4 ++ [MP.O.ins 0 N'.fs] = S5 at g ds4 ⊢
  generalize (S4.length : Nat) = n at g na nb ⊢
  clear S4
  have la := O'.la
  refine s_cons (s_nm (e_blt (es_cons (e_comp (i_seq (e_ix (e_var rfl (e_int (x_tup rfl ?_)))))))))
  dsimp only [tN]
  rw [ea]
  refine ⟨by rw [nl_len, sizeLine_eq]; omega, ?_⟩
  refine comp_dr (c := C 39) S5 (fun S' fr => gd_nil) (fun _ _ => True) ds4 Fr.refl (fun i x S' K hx ds' fr' hK => ?_) fun ns S6 lns _ ds6 fr6 => ?_
  · exact cmp_nm (if_nil (k_t (e_call (es_cons (e_var rfl (es_cons (e_int (es_nil (draw_nat (by omega) ds' (n := 3) (by omega) (by omega) rfl fun v S'' hv ds'' fr'' => hK v S'' trivial ds'' fr'')))))))))
  rw [nl_len] at lns
  refine es_nil (f_tupr g_last ?_)
  dsimp only [List.set]
  replace g := g_app (l := [MP.O.lst (nl ns)]) (fr6.get na g)
  replace ds6 := ds6.app (l := [MP.O.lst (nl ns)])
  generalize S6 ++ [MP.O.lst (nl ns)] = S7 at g ds6 ⊢
  clear fr6 ds4 S5 S6
  have etn : D.tup (nl ns) = tN ns := rfl
  rw [etn]
  have chd : ∀ {S1 S2 : Sto}, DS S1 2 1 → Ch [] S1 S2 → DS S2 2 1 := fun h c => h.ch c (fun z => nomatch z) fun z => nomatch z
  have sok : ∀ s ∈ N'.run F0 ns, StOk nv nc s := run_ok fun x hx => by rw [List.mem_singleton.mp hx]; exact first_st O' ns
  have r1 : 1 ≤ (N'.run F0 ns).length := (run_pre N'.rs F0 [N'.first ns] 0).length_le
  refine s_mid (hC 39) (fun σ S' => ((150 < (N'.run F0 ns).length ∧ σ = [some (.klst (ns0.map .int)), some (.ref 2), some (.int (way : Nat)), some (netD N), some (.tup (rows.map fun x => rD x.1 x.2)), some (.ref n), some (tN ns), some .non, none, none, none, none, none, none]) ∨ ∃ d kvs, (N'.run F0 ns).length ≤ 150 ∧ d ≠ 2 ∧ d ≠ 1 ∧ d ≠ n ∧ S'[d]? = some (.nd false kvs) ∧ kvs.map Prod.fst = (N'.run F0 ns).map nkey ∧ σ = [some (.klst (ns0.map .int)), some (.ref 2), some (.int (way : Nat)), some (netD N), some (.tup (rows.map fun x => rD x.1 x.2)), some (.ref n), some (tN ns), some (.ref d), none, none, none, none, none, none]) ∧ DS S' 2 1 ∧ S'[n]? = some (.ins 0 N'.fs)) (s_nm (e_call (es_cons (e_var rfl (es_cons (e_call (es_cons (e_var rfl (es_cons (e_var rfl (es_nil (lfirst_ok (by omega) g O' lns fun S8 ch8 => es_cons (e_int (es_nil (lwalk_ok (F := F0) (m := 150) (by omega) (ch8.get (fun z => nomatch z) g) O' (by omega) (by omega) (by omega) (fun h d kvs S9 ch9 hd gd hk => ?_) fun h S9 ch9 => ?_))))))))))))))) fun σ S8 h => ?_
  · have h2 := ds6.lta
    have h3 := g_lt g
    have h4 := ch8.le
    exact ⟨.inr ⟨d, kvs, h, by omega, by omega, by omega, gd, hk, rfl⟩, chd (chd ds6 ch8) ch9, ch9.get (fun z => nomatch z) (ch8.get (fun z => nomatch z) g)⟩
  · exact ⟨.inl ⟨h, rfl⟩, chd (chd ds6 ch8) ch9, ch9.get (fun z => nomatch z) (ch8.get (fun z => nomatch z) g)⟩
  clear g ds6 S7
  obtain ⟨h, ds8, g⟩ := h
  rcases h with ⟨hR, rfl⟩ | ⟨d, kvs, hR, d2, d1, dn, gd, hk, rfl⟩
  · -- more than 150
    refine s_cons (s_iff (e_cmp (e_var rfl (e_non (c_isn rfl (t_bl (k_t ?_)))))))
    refine s_cons (s_for (i_seq (e_tup (es_cons (e_int (es_cons (e_bin (e_int (e_call (es_cons (e_var rfl (es_cons (e_int (es_nil (draw_nat (by omega) ds8 (n := 150) (by decide) (by decide) rfl fun v S9 hv ds9 fr9 => b_add ?_)))))))))))))))
    rw [show (1 : Int) + (v : Nat) = ((v + 1 : Nat) : Int) by omega]
    refine es_nil ⟨two_sz, ?_⟩
    dsimp only
    have g9 := fr9.get na g
    refine for_inv (hC 39) (fun i σ S' => ∃ s8, Ch [] S9 S' ∧ σ = [some (.klst (ns0.map .int)), some (.ref 2), some (.int (way : Nat)), some (netD N), some (.tup (rows.map fun x => rD x.1 x.2)), some (.ref n), some (tN ns), some .non, s8, none, none, none, none, none]) ⟨_, Ch.refl, rfl⟩ (fun _ _ _ _ _ => gd_nil) (fun i x σ S10 hx h => ?_) fun σ S10 h => ?_
    · obtain ⟨s8, ch, rfl⟩ := h
      obtain ⟨m, hm, m1, m2⟩ : ∃ m, Mo x m ∧ 1 ≤ m ∧ m ≤ 150 := by
        have := List.mem_of_getElem? hx
        simp only [List.mem_cons, List.not_mem_nil, or_false] at this
        rcases this with rfl | rfl
        · exact ⟨150, .inr rfl, by omega, by omega⟩
        · exact ⟨v + 1, .inr rfl, by omega, by omega⟩
      have eS : ∀ e, N'.ans F0 m ns e = aS := fun e => by
        unfold Net.ans
        rw [if_pos lns, if_neg (by omega)]
      dsimp only [asg, List.set]
      refine s_cons (s_iff (e_cmp (e_call (es_cons (e_var rfl (es_cons (e_var rfl (es_cons (e_var rfl (es_cons (e_bl (es_nil (ans_ok (F := F0) (by omega) (ch.get (fun z => nomatch z) g9) O' hm m1 (by omega) (by omega) fun S11 ch11 => ?_)))))))))))))
      rw [eS]
      refine e_tup (es_cons (e_str (es_nil ⟨one_sz, c_neD pu_S (t_bl (k_f (s_nil ?_)))⟩)))
      refine s_cons (s_iff (e_cmp (e_call (es_cons (e_var rfl (es_cons (e_var rfl (es_cons (e_var rfl (es_cons (e_bl (es_nil (ans_ok (F := F0) (by omega) ((ch.trans ch11).get (fun z => nomatch z) g9) O' hm m1 (by omega) (by omega) fun S12 ch12 => ?_)))))))))))))
      rw [eS]
      exact e_tup (es_cons (e_str (es_nil ⟨one_sz, c_neD pu_S (t_bl (k_f (s_nil (s_nil ⟨_, (ch.trans ch11).trans ch12, rfl⟩))))⟩)))
    · obtain ⟨s8, ch, rfl⟩ := h
      exact s_cons (s_ret (e_bl rfl))
  -- all states are known
  refine s_cons (s_iff (e_cmp (e_var rfl (e_non (c_isn' (by intro h; cases h) (t_bl (k_f (s_nil ?_))))))))
  have lk : kvs.length = (N'.run F0 ns).length := by
    have := congrArg List.length hk
    rw [List.length_map, List.length_map] at this
    exact this
  refine s_cons (s_nm (e_blt (es_cons (e_orr (e_compN rfl gd (by rw [lk, sizeLine_eq]; omega) ?_)))))
  have ek : (kvs.map fun kv => nkD kv.1) = (N'.run F0 ns).map stD := by
    have : (kvs.map fun kv => nkD kv.1) = (kvs.map Prod.fst).map nkD := by rw [List.map_map]; rfl
    rw [this, hk, List.map_map]
    exact List.map_congr_left fun s _ => nkD_st s
  rw [ek]
  have gd2 : (S8.set d (.nd true kvs))[d]? = some (.nd true kvs) := g_set gd
  refine comp_map stD stD gd_nil (xs := N'.run F0 ns) (fun x hx K hK => cmp_nm (if_nil (k_t (e_var rfl hK)))) ⟨gd2, es_nil (f_tupr g_lastS ?_)⟩
  dsimp only [List.set]
  have ds9 := (((ds8.setn (o := MP.O.nd true kvs) d2 d1).setn (o := MP.O.nd false kvs) d2 d1).app (l := [MP.O.lst ((N'.run F0 ns).map stD)]))
  have g9 := g_app (l := [MP.O.lst ((N'.run F0 ns).map stD)]) (g_setn (o' := MP.O.nd false kvs) dn (g_setn (o' := MP.O.nd true kvs) dn g))
  generalize ((S8.set d (.nd true kvs)).set d (.nd false kvs)) ++ [MP.O.lst ((N'.run F0 ns).map stD)] = S9 at ds9 g9 ⊢
  clear gd gd2 ds8 g ek hk lk S8
  have lr := O'.lr
  refine s_cons (s_nm (e_blt (es_cons (e_orl (e_comp (i_seq (e_var rfl ?_)))))))
  dsimp only
  refine ⟨by rw [List.length_map, sizeLine_eq]; omega, ?_⟩
  refine comp_inv (comp_mono (hC 39)) (fun i acc S' => acc = (((N'.run F0 ns).take i).filter N'.end_).map stD ∧ Ch [] S9 S') ⟨rfl, Ch.refl⟩ (fun _ _ _ _ _ => gd_nil) (fun i x acc S10 hx h => ?_) fun acc S10 h => ?_
  · obtain ⟨rfl, ch⟩ := h
    rw [List.getElem?_map] at hx
    obtain ⟨s, hs, rfl⟩ := Option.map_eq_some_iff.mp hx
    have so := sok s (List.mem_of_getElem? hs)
    refine cmp_nm (if_cons (e_not (e_blt (es_cons (e_comp (i_seq (e_fld (e_var rfl (fld_ref (ch.get (fun z => nomatch z) g9) N'.f_rows ?_)))))))))
    refine ⟨by unfold Net.rD; rw [List.length_map, sizeLine_eq]; omega, ?_⟩
    refine comp_inv (comp_mono (hC 39)) (fun j acc S' => acc = (N'.rows.take j).map (fun x => D.bl (canF x.2 s)) ∧ Ch [] S9 S') ⟨rfl, ch⟩ (fun _ _ _ _ _ => gd_nil) (fun j x acc S11 hx h => ?_) fun acc S11 h => ?_
    · obtain ⟨rfl, ch11⟩ := h
      unfold Net.rD at hx
      rw [List.getElem?_map] at hx
      obtain ⟨y, hy, rfl⟩ := Option.map_eq_some_iff.mp hx
      have R := O'.rk y (List.mem_of_getElem? hy)
      have tc := taken_can R so
      refine cmp_nm (if_nil (k_t (e_cmp (e_call (es_cons (e_var rfl (es_cons (e_var rfl (es_nil (ltaken_ok (by omega) R so fun S12 ch12 => e_non ?_))))))))))
      rw [List.take_succ, hy, List.map_append]
      cases ho : takenF y.2 s with
      | none =>
        rw [ho] at tc
        refine c_notn rfl ⟨?_, ch11.trans ch12⟩
        show _ ++ [D.bl false] = _ ++ [D.bl (canF y.2 s)]
        rw [← tc]
        rfl
      | some s' =>
        rw [ho] at tc
        refine c_notn' stD_ne ⟨?_, ch11.trans ch12⟩
        show _ ++ [D.bl true] = _ ++ [D.bl (canF y.2 s)]
        rw [← tc]
        rfl
    obtain ⟨rfl, ch11⟩ := h
    have : N'.rows.length ≤ N'.rD.length := by unfold Net.rD; simp
    rw [List.take_of_length_le this]
    refine es_nil (f_any g_last (bls_map (fun x : D × Row => canF x.2 s) N'.rows) ?_)
    rw [any_id]
    refine t_bl (t_bl ?_)
    have ft := flt_take (p := N'.end_) hs
    show if N'.end_ s = true then _ else _
    rw [ft, List.map_append]
    cases he : N'.end_ s with
    | true => exact k_t (if_nil (k_t (e_var rfl ⟨rfl, ch11.app⟩)))
    | false =>
      refine k_f ⟨?_, ch11.app⟩
      show _ = _ ++ []
      rw [List.append_nil]
  obtain ⟨rfl, ch⟩ := h
  rw [List.length_map, List.take_length]
  refine es_nil (f_tupr g_last ?_)
  dsimp only [List.set]
  have ch2 := ch.app (l := [MP.O.lst (((N'.run F0 ns).filter N'.end_).map stD)])
  replace ds9 := chd ds9 ch2
  replace g9 := ch2.get (fun z => nomatch z) g9
  generalize S10 ++ [MP.O.lst (((N'.run F0 ns).filter N'.end_).map stD)] = S11 at ds9 g9 ⊢
  clear ch ch2 S9 S10
  have eM : (List.length ((N'.run F0 ns).map stD) : Int) = ((N'.run F0 ns).length : Nat) := by rw [List.length_map]
  refine s_cons (s_iff (e_or (e_not (e_call (es_cons (e_var rfl (es_cons (e_var rfl (es_cons (e_var rfl (es_cons (e_var rfl (es_cons (e_blt (es_cons (e_var rfl (es_nil (f_lent (es_cons (e_bl (es_nil ?_)))))))))))))))))))))
  rw [eM]
  refine right_ok (e := false) (by omega) ds9 na g9 O' lns rfl r1 hR fun S12 ds12 fr12 => t_bl (t_bl (k_f ?_))
  refine e_not (e_call (es_cons (e_var rfl (es_cons (e_var rfl (es_cons (e_var rfl (es_cons (e_var rfl (es_cons (e_blt (es_cons (e_var rfl (es_nil (f_lent (es_cons (e_bl (es_nil ?_))))))))))))))))))
  rw [eM]
  refine right_ok (e := true) (by omega) ds12 na (fr12.get na g9) O' lns rfl r1 hR fun S13 ds13 fr13 => t_bl (t_bl (k_f (s_nil ?_)))
  refine s_cons (s_ret (e_call (es_cons (e_call (es_cons (e_var rfl (es_cons (e_var rfl (es_cons (e_non (es_cons (e_bl (es_nil (ans_ok (F := F0) (by omega) (fr13.get na (fr12.get na g9)) O' (.inl ⟨rfl, rfl⟩) (by omega) (by omega) (by omega) fun S14 ch14 => ?_))))))))))))))
  have eF : N'.ans F0 3000 ns false = aT (N'.run F0 ns) := by
    unfold Net.ans
    rw [if_pos lns, if_pos (by omega)]
    rfl
  rw [eF]
  exact es_cons (e_var rfl (es_nil (same_ok (by omega) (by omega) fun S15 ch15 => rfl)))
end K24
namespace K24
open PySem PySem.Spec PyProof.Rows L2 MP
set_option maxHeartbeats 0 in
theorem all_mk {w : World} {K : PySem.W.Frag} {h : Heap} {mg : Str → Option Value} {fa g0 g1 g2 g3 g4 g5 g6 g7 g8 g9 g10 g11 g12 g13 g14 g15 g16 g17 g18 g19 g20 g21 g22 g23 g24 C0 h0 X0 y0 X1 y1 Q0 Q1 Q2 Q3 Q4 : Addr} (X : K.In h) (G : h.Ns mainGlobals mg) (hfa : mg "law" = some (.ref fa))
    {od0 an0 : Option Addr} {sl0 : Array (Option Value)} {oc0 kV0 dc0 pm0 cd0 ct0 : Value}
    (a0 : PySem.W.nsIn K mainGlobals "first_state" = some (some (.ref g0))) (l0 : K.lookup g0 = some ⟨oc0, od0, .func (PySem.W.fnOf "first_state" "first_state" (defArgs efirst_state.st) (defBody efirst_state.st) (defScope efirst_state.st) .none kV0 dc0 pm0 an0 cd0 ct0), sl0⟩) (c0 : PySem.W.codeIn K cd0 "first_state" = true) (k0 : PySem.W.keepIn K (.ref g0) = true)
    {od1 an1 : Option Addr} {sl1 : Array (Option Value)} {oc1 kV1 dc1 pm1 cd1 ct1 : Value}
    (a1 : PySem.W.nsIn K mainGlobals "can_take" = some (some (.ref g1))) (l1 : K.lookup g1 = some ⟨oc1, od1, .func (PySem.W.fnOf "can_take" "can_take" (defArgs ecan_take.st) (defBody ecan_take.st) (defScope ecan_take.st) .none kV1 dc1 pm1 an1 cd1 ct1), sl1⟩) (c1 : PySem.W.codeIn K cd1 "can_take" = true) (k1 : PySem.W.keepIn K (.ref g1) = true)
    {od2 an2 : Option Addr} {sl2 : Array (Option Value)} {oc2 kV2 dc2 pm2 cd2 ct2 : Value}
    (a2 : PySem.W.nsIn K mainGlobals "taken" = some (some (.ref g2))) (l2 : K.lookup g2 = some ⟨oc2, od2, .func (PySem.W.fnOf "taken" "taken" (defArgs etaken.st) (defBody etaken.st) (defScope etaken.st) .none kV2 dc2 pm2 an2 cd2 ct2), sl2⟩) (c2 : PySem.W.codeIn K cd2 "taken" = true) (k2 : PySem.W.keepIn K (.ref g2) = true)
    {od3 an3 : Option Addr} {sl3 : Array (Option Value)} {oc3 kV3 dc3 pm3 cd3 ct3 : Value}
    {tD3_0 : Tok}
    {rD3 nD3 : Nat} {sD3 : Array (Option Value)}
    (a3 : PySem.W.nsIn K mainGlobals "walk" = some (some (.ref g3))) (l3 : K.lookup g3 = some ⟨oc3, od3, .func (PySem.W.fnOf "walk" "walk" (defArgs ewalk.st) (defBody ewalk.st) (defScope ewalk.st) (.ref rD3) kV3 dc3 pm3 an3 cd3 ct3), sl3⟩) (c3 : PySem.W.codeIn K cd3 "walk" = true) (k3 : PySem.W.keepIn K (.ref g3) = true)
    (pD3 : K.lookup rD3 = some ⟨.type "tuple", none, .seq #[.int 3000 tD3_0] nD3, sD3⟩)
    {od4 an4 : Option Addr} {sl4 : Array (Option Value)} {oc4 kV4 dc4 pm4 cd4 ct4 : Value}
    {tD4_0 : Tok}
    {rD4 nD4 : Nat} {sD4 : Array (Option Value)}
    (a4 : PySem.W.nsIn K mainGlobals "dead_ends" = some (some (.ref g4))) (l4 : K.lookup g4 = some ⟨oc4, od4, .func (PySem.W.fnOf "dead_ends" "dead_ends" (defArgs edead_ends.st) (defBody edead_ends.st) (defScope edead_ends.st) (.ref rD4) kV4 dc4 pm4 an4 cd4 ct4), sl4⟩) (c4 : PySem.W.codeIn K cd4 "dead_ends" = true) (k4 : PySem.W.keepIn K (.ref g4) = true)
    (pD4 : K.lookup rD4 = some ⟨.type "tuple", none, .seq #[.int 3000 tD4_0] nD4, sD4⟩)
    {od5 an5 : Option Addr} {sl5 : Array (Option Value)} {oc5 kV5 dc5 pm5 cd5 ct5 : Value}
    (a5 : PySem.W.nsIn K mainGlobals "_law_begin" = some (some (.ref g5))) (l5 : K.lookup g5 = some ⟨oc5, od5, .func (PySem.W.fnOf "_law_begin" "_law_begin" (defArgs e_law_begin.st) (defBody e_law_begin.st) (defScope e_law_begin.st) .none kV5 dc5 pm5 an5 cd5 ct5), sl5⟩) (c5 : PySem.W.codeIn K cd5 "_law_begin" = true) (k5 : PySem.W.keepIn K (.ref g5) = true)
    {od6 an6 : Option Addr} {sl6 : Array (Option Value)} {oc6 kV6 dc6 pm6 cd6 ct6 : Value}
    (a6 : PySem.W.nsIn K mainGlobals "_law_draw" = some (some (.ref g6))) (l6 : K.lookup g6 = some ⟨oc6, od6, .func (PySem.W.fnOf "_law_draw" "_law_draw" (defArgs e_law_draw.st) (defBody e_law_draw.st) (defScope e_law_draw.st) .none kV6 dc6 pm6 an6 cd6 ct6), sl6⟩) (c6 : PySem.W.codeIn K cd6 "_law_draw" = true) (k6 : PySem.W.keepIn K (.ref g6) = true)
    {od7 an7 : Option Addr} {sl7 : Array (Option Value)} {oc7 kV7 dc7 pm7 cd7 ct7 : Value}
    (a7 : PySem.W.nsIn K mainGlobals "_law_pick" = some (some (.ref g7))) (l7 : K.lookup g7 = some ⟨oc7, od7, .func (PySem.W.fnOf "_law_pick" "_law_pick" (defArgs e_law_pick.st) (defBody e_law_pick.st) (defScope e_law_pick.st) .none kV7 dc7 pm7 an7 cd7 ct7), sl7⟩) (c7 : PySem.W.codeIn K cd7 "_law_pick" = true) (k7 : PySem.W.keepIn K (.ref g7) = true)
    {od8 an8 : Option Addr} {sl8 : Array (Option Value)} {oc8 kV8 dc8 pm8 cd8 ct8 : Value}
    (a8 : PySem.W.nsIn K mainGlobals "_law_rare" = some (some (.ref g8))) (l8 : K.lookup g8 = some ⟨oc8, od8, .func (PySem.W.fnOf "_law_rare" "_law_rare" (defArgs e_law_rare.st) (defBody e_law_rare.st) (defScope e_law_rare.st) .none kV8 dc8 pm8 an8 cd8 ct8), sl8⟩) (c8 : PySem.W.codeIn K cd8 "_law_rare" = true) (k8 : PySem.W.keepIn K (.ref g8) = true)
    {od9 an9 : Option Addr} {sl9 : Array (Option Value)} {oc9 kV9 dc9 pm9 cd9 ct9 : Value}
    (a9 : PySem.W.nsIn K mainGlobals "_law_shuffled" = some (some (.ref g9))) (l9 : K.lookup g9 = some ⟨oc9, od9, .func (PySem.W.fnOf "_law_shuffled" "_law_shuffled" (defArgs e_law_shuffled.st) (defBody e_law_shuffled.st) (defScope e_law_shuffled.st) .none kV9 dc9 pm9 an9 cd9 ct9), sl9⟩) (c9 : PySem.W.codeIn K cd9 "_law_shuffled" = true) (k9 : PySem.W.keepIn K (.ref g9) = true)
    {od10 an10 : Option Addr} {sl10 : Array (Option Value)} {oc10 kV10 dc10 pm10 cd10 ct10 : Value}
    (a10 : PySem.W.nsIn K mainGlobals "_law_pool" = some (some (.ref g10))) (l10 : K.lookup g10 = some ⟨oc10, od10, .func (PySem.W.fnOf "_law_pool" "_law_pool" (defArgs e_law_pool.st) (defBody e_law_pool.st) (defScope e_law_pool.st) .none kV10 dc10 pm10 an10 cd10 ct10), sl10⟩) (c10 : PySem.W.codeIn K cd10 "_law_pool" = true) (k10 : PySem.W.keepIn K (.ref g10) = true)
    {od11 an11 : Option Addr} {sl11 : Array (Option Value)} {oc11 kV11 dc11 pm11 cd11 ct11 : Value}
    (a11 : PySem.W.nsIn K mainGlobals "_law_full" = some (some (.ref g11))) (l11 : K.lookup g11 = some ⟨oc11, od11, .func (PySem.W.fnOf "_law_full" "_law_full" (defArgs e_law_full.st) (defBody e_law_full.st) (defScope e_law_full.st) .none kV11 dc11 pm11 an11 cd11 ct11), sl11⟩) (c11 : PySem.W.codeIn K cd11 "_law_full" = true) (k11 : PySem.W.keepIn K (.ref g11) = true)
    {od12 an12 : Option Addr} {sl12 : Array (Option Value)} {oc12 kV12 dc12 pm12 cd12 ct12 : Value}
    (a12 : PySem.W.nsIn K mainGlobals "_law_first" = some (some (.ref g12))) (l12 : K.lookup g12 = some ⟨oc12, od12, .func (PySem.W.fnOf "_law_first" "_law_first" (defArgs e_law_first.st) (defBody e_law_first.st) (defScope e_law_first.st) .none kV12 dc12 pm12 an12 cd12 ct12), sl12⟩) (c12 : PySem.W.codeIn K cd12 "_law_first" = true) (k12 : PySem.W.keepIn K (.ref g12) = true)
    {od13 an13 : Option Addr} {sl13 : Array (Option Value)} {oc13 kV13 dc13 pm13 cd13 ct13 : Value}
    (a13 : PySem.W.nsIn K mainGlobals "_law_taken" = some (some (.ref g13))) (l13 : K.lookup g13 = some ⟨oc13, od13, .func (PySem.W.fnOf "_law_taken" "_law_taken" (defArgs e_law_taken.st) (defBody e_law_taken.st) (defScope e_law_taken.st) .none kV13 dc13 pm13 an13 cd13 ct13), sl13⟩) (c13 : PySem.W.codeIn K cd13 "_law_taken" = true) (k13 : PySem.W.keepIn K (.ref g13) = true)
    {od14 an14 : Option Addr} {sl14 : Array (Option Value)} {oc14 kV14 dc14 pm14 cd14 ct14 : Value}
    (a14 : PySem.W.nsIn K mainGlobals "_law_walk" = some (some (.ref g14))) (l14 : K.lookup g14 = some ⟨oc14, od14, .func (PySem.W.fnOf "_law_walk" "_law_walk" (defArgs e_law_walk.st) (defBody e_law_walk.st) (defScope e_law_walk.st) .none kV14 dc14 pm14 an14 cd14 ct14), sl14⟩) (c14 : PySem.W.codeIn K cd14 "_law_walk" = true) (k14 : PySem.W.keepIn K (.ref g14) = true)
    {od15 an15 : Option Addr} {sl15 : Array (Option Value)} {oc15 kV15 dc15 pm15 cd15 ct15 : Value}
    (a15 : PySem.W.nsIn K mainGlobals "_law_mask" = some (some (.ref g15))) (l15 : K.lookup g15 = some ⟨oc15, od15, .func (PySem.W.fnOf "_law_mask" "_law_mask" (defArgs e_law_mask.st) (defBody e_law_mask.st) (defScope e_law_mask.st) .none kV15 dc15 pm15 an15 cd15 ct15), sl15⟩) (c15 : PySem.W.codeIn K cd15 "_law_mask" = true) (k15 : PySem.W.keepIn K (.ref g15) = true)
    {od16 an16 : Option Addr} {sl16 : Array (Option Value)} {oc16 kV16 dc16 pm16 cd16 ct16 : Value}
    (a16 : PySem.W.nsIn K mainGlobals "_law_row" = some (some (.ref g16))) (l16 : K.lookup g16 = some ⟨oc16, od16, .func (PySem.W.fnOf "_law_row" "_law_row" (defArgs e_law_row.st) (defBody e_law_row.st) (defScope e_law_row.st) .none kV16 dc16 pm16 an16 cd16 ct16), sl16⟩) (c16 : PySem.W.codeIn K cd16 "_law_row" = true) (k16 : PySem.W.keepIn K (.ref g16) = true)
    {od17 an17 : Option Addr} {sl17 : Array (Option Value)} {oc17 kV17 dc17 pm17 cd17 ct17 : Value}
    (a17 : PySem.W.nsIn K mainGlobals "_law_net_parts" = some (some (.ref g17))) (l17 : K.lookup g17 = some ⟨oc17, od17, .func (PySem.W.fnOf "_law_net_parts" "_law_net_parts" (defArgs e_law_net_parts.st) (defBody e_law_net_parts.st) (defScope e_law_net_parts.st) .none kV17 dc17 pm17 an17 cd17 ct17), sl17⟩) (c17 : PySem.W.codeIn K cd17 "_law_net_parts" = true) (k17 : PySem.W.keepIn K (.ref g17) = true)
    {od18 an18 : Option Addr} {sl18 : Array (Option Value)} {oc18 kV18 dc18 pm18 cd18 ct18 : Value}
    (a18 : PySem.W.nsIn K mainGlobals "_law_ring_parts" = some (some (.ref g18))) (l18 : K.lookup g18 = some ⟨oc18, od18, .func (PySem.W.fnOf "_law_ring_parts" "_law_ring_parts" (defArgs e_law_ring_parts.st) (defBody e_law_ring_parts.st) (defScope e_law_ring_parts.st) .none kV18 dc18 pm18 an18 cd18 ct18), sl18⟩) (c18 : PySem.W.codeIn K cd18 "_law_ring_parts" = true) (k18 : PySem.W.keepIn K (.ref g18) = true)
    {od19 an19 : Option Addr} {sl19 : Array (Option Value)} {oc19 kV19 dc19 pm19 cd19 ct19 : Value}
    (a19 : PySem.W.nsIn K mainGlobals "_law_is_pair" = some (some (.ref g19))) (l19 : K.lookup g19 = some ⟨oc19, od19, .func (PySem.W.fnOf "_law_is_pair" "_law_is_pair" (defArgs e_law_is_pair.st) (defBody e_law_is_pair.st) (defScope e_law_is_pair.st) .none kV19 dc19 pm19 an19 cd19 ct19), sl19⟩) (c19 : PySem.W.codeIn K cd19 "_law_is_pair" = true) (k19 : PySem.W.keepIn K (.ref g19) = true)
    {od20 an20 : Option Addr} {sl20 : Array (Option Value)} {oc20 kV20 dc20 pm20 cd20 ct20 : Value}
    (a20 : PySem.W.nsIn K mainGlobals "_law_same_states" = some (some (.ref g20))) (l20 : K.lookup g20 = some ⟨oc20, od20, .func (PySem.W.fnOf "_law_same_states" "_law_same_states" (defArgs e_law_same_states.st) (defBody e_law_same_states.st) (defScope e_law_same_states.st) .none kV20 dc20 pm20 an20 cd20 ct20), sl20⟩) (c20 : PySem.W.codeIn K cd20 "_law_same_states" = true) (k20 : PySem.W.keepIn K (.ref g20) = true)
    {od21 an21 : Option Addr} {sl21 : Array (Option Value)} {oc21 kV21 dc21 pm21 cd21 ct21 : Value}
    (a21 : PySem.W.nsIn K mainGlobals "_law_answered" = some (some (.ref g21))) (l21 : K.lookup g21 = some ⟨oc21, od21, .func (PySem.W.fnOf "_law_answered" "_law_answered" (defArgs e_law_answered.st) (defBody e_law_answered.st) (defScope e_law_answered.st) .none kV21 dc21 pm21 an21 cd21 ct21), sl21⟩) (c21 : PySem.W.codeIn K cd21 "_law_answered" = true) (k21 : PySem.W.keepIn K (.ref g21) = true)
    {od22 an22 : Option Addr} {sl22 : Array (Option Value)} {oc22 kV22 dc22 pm22 cd22 ct22 : Value}
    (a22 : PySem.W.nsIn K mainGlobals "_law_long_line" = some (some (.ref g22))) (l22 : K.lookup g22 = some ⟨oc22, od22, .func (PySem.W.fnOf "_law_long_line" "_law_long_line" (defArgs e_law_long_line.st) (defBody e_law_long_line.st) (defScope e_law_long_line.st) .none kV22 dc22 pm22 an22 cd22 ct22), sl22⟩) (c22 : PySem.W.codeIn K cd22 "_law_long_line" = true) (k22 : PySem.W.keepIn K (.ref g22) = true)
    {od23 an23 : Option Addr} {sl23 : Array (Option Value)} {oc23 kV23 dc23 pm23 cd23 ct23 : Value}
    (a23 : PySem.W.nsIn K mainGlobals "_law_right" = some (some (.ref g23))) (l23 : K.lookup g23 = some ⟨oc23, od23, .func (PySem.W.fnOf "_law_right" "_law_right" (defArgs e_law_right.st) (defBody e_law_right.st) (defScope e_law_right.st) .none kV23 dc23 pm23 an23 cd23 ct23), sl23⟩) (c23 : PySem.W.codeIn K cd23 "_law_right" = true) (k23 : PySem.W.keepIn K (.ref g23) = true)
    {od24 an24 : Option Addr} {sl24 : Array (Option Value)} {oc24 kV24 dc24 pm24 cd24 ct24 : Value}
    (a24 : PySem.W.nsIn K mainGlobals "law" = some (some (.ref g24))) (l24 : K.lookup g24 = some ⟨oc24, od24, .func (PySem.W.fnOf "law" "law" (defArgs elaw.st) (defBody elaw.st) (defScope elaw.st) .none kV24 dc24 pm24 an24 cd24 ct24), sl24⟩) (c24 : PySem.W.codeIn K cd24 "law" = true) (k24 : PySem.W.keepIn K (.ref g24) = true)
    {odC0 anC0 : Option Addr} {slC0 : Array (Option Value)} {ocC0 kVC0 dcC0 pmC0 cdC0 ctC0 : Value}
    (nC0 : PySem.W.nsIn K mainGlobals "Net" = some (some (.ref C0))) (aC0 : PySem.W.findIn K (.ref C0) "__init__" = some (some (.ref h0))) (iC0 : PySem.W.isFn K (.ref h0) = true)
    (lC0 : K.lookup h0 = some ⟨ocC0, odC0, .func (PySem.W.fnOf "__init__" "Net.__init__" (defArgs sNet) (defBody sNet) (defScope sNet) .none kVC0 dcC0 pmC0 anC0 cdC0 ctC0), slC0⟩) (cC0 : PySem.W.codeIn K cdC0 "Net.__init__" = true) (kC0 : PySem.W.keepIn K (.ref h0) = true)
    (pg0 : PySem.W.plainGet K C0 Str.empty = true) (hd0 : PySem.W.hasDictIn K C0 = true) (po0 : PySem.W.plainOver K C0 = true) (sa0 : PySem.W.findIn K (.ref C0) "__setattr__" = some (some (.builtin "object.__setattr__"))) (mk0 : PySem.W.makesIn K C0 = true) (kc0 : PySem.W.keepIn K (.ref C0) = true)
    (na0_variables : PySem.W.findIn K (.ref C0) "variables" = some none)
    (na0_counters : PySem.W.findIn K (.ref C0) "counters" = some none)
    (na0_rows : PySem.W.findIn K (.ref C0) "rows" = some none)
    (na0_start : PySem.W.findIn K (.ref C0) "start" = some none)
    (na0_counts : PySem.W.findIn K (.ref C0) "counts" = some none)
    (na0_added : PySem.W.findIn K (.ref C0) "added" = some none)
    {odX0 anX0 : Option Addr} {slX0 : Array (Option Value)} {ocX0 kVX0 dcX0 pmX0 cdX0 ctX0 : Value}
    {nmX0 quX0 : Str} {NX0 : Addr} {bsX0 : List Value} {snX0 : List Str} {suX0 : List Value} {abX0 : Bool} {coX0 : Option Bool} {ddX0 : Option Addr} {m0X0 m1X0 m2X0 m3X0 m5X0 : Option Value}
    (nX0 : PySem.W.nsIn K mainGlobals "TooMany" = some (some (.ref X0)))
    (xX0 : K.lookup X0 = some (excClassObj nmX0 quX0 X0 NX0 bsX0 [.ref Q0, .type "ValueError", .type "Exception", .type "BaseException", .type "object"] true snX0 suX0 abX0 coX0 ddX0 m0X0 m1X0 m2X0 m3X0 m5X0 "ValueError.__new__"))
    (saX0 : PySem.W.findIn K (.ref X0) "__setattr__" = some (some (.builtin "object.__setattr__"))) (exX0 : PySem.W.subIn K (.ref X0) (.type "BaseException") = some true) (tyX0 : PySem.W.typeIn K (.ref X0) = some (.type "type")) (kcX0 : PySem.W.keepIn K (.ref X0) = true)
    (inX0 : PySem.W.findIn K (.ref X0) "__init__" = some (some (.ref y0))) (tiX0 : PySem.W.typeIn K (.ref y0) = some (.type "function")) (nfX0 : PySem.W.findIn K (.ref X0) "part" = some none)
    (gaX0 : PySem.W.findIn K (.ref X0) "__getattribute__" = some (some (.builtin "BaseException.__getattribute__"))) (ggX0 : PySem.W.findIn K (.ref X0) "__getattr__" = some none) (hdX0 : PySem.W.hasDictIn K X0 = true) (haX0 : PySem.W.findIn K (.ref X0) "__class__" = some (some (.builtin "object.__class__"))) (hmX0 : PySem.W.mroIn K X0 (.type "object") = some true)
    (lX0 : K.lookup y0 = some ⟨ocX0, odX0, .func (PySem.W.fnOf "__init__" "TooMany.__init__" (defArgs sTooMany) (defBody sTooMany) (defScope sTooMany) .none kVX0 dcX0 pmX0 anX0 cdX0 ctX0), slX0⟩) (cX0 : PySem.W.codeIn K cdX0 "TooMany.__init__" = true) (kX0 : PySem.W.keepIn K (.ref y0) = true)
    {odX1 anX1 : Option Addr} {slX1 : Array (Option Value)} {ocX1 kVX1 dcX1 pmX1 cdX1 ctX1 : Value}
    {nmX1 quX1 : Str} {NX1 : Addr} {bsX1 : List Value} {snX1 : List Str} {suX1 : List Value} {abX1 : Bool} {coX1 : Option Bool} {ddX1 : Option Addr} {m0X1 m1X1 m2X1 m3X1 m5X1 : Option Value}
    (nX1 : PySem.W.nsIn K mainGlobals "NotFor" = some (some (.ref X1)))
    (xX1 : K.lookup X1 = some (excClassObj nmX1 quX1 X1 NX1 bsX1 [.ref Q0, .type "ValueError", .type "Exception", .type "BaseException", .type "object"] true snX1 suX1 abX1 coX1 ddX1 m0X1 m1X1 m2X1 m3X1 m5X1 "ValueError.__new__"))
    (saX1 : PySem.W.findIn K (.ref X1) "__setattr__" = some (some (.builtin "object.__setattr__"))) (exX1 : PySem.W.subIn K (.ref X1) (.type "BaseException") = some true) (tyX1 : PySem.W.typeIn K (.ref X1) = some (.type "type")) (kcX1 : PySem.W.keepIn K (.ref X1) = true)
    (inX1 : PySem.W.findIn K (.ref X1) "__init__" = some (some (.ref y1))) (tiX1 : PySem.W.typeIn K (.ref y1) = some (.type "function")) (nfX1 : PySem.W.findIn K (.ref X1) "word" = some none)
    (gaX1 : PySem.W.findIn K (.ref X1) "__getattribute__" = some (some (.builtin "BaseException.__getattribute__"))) (ggX1 : PySem.W.findIn K (.ref X1) "__getattr__" = some none) (hdX1 : PySem.W.hasDictIn K X1 = true) (haX1 : PySem.W.findIn K (.ref X1) "__class__" = some (some (.builtin "object.__class__"))) (hmX1 : PySem.W.mroIn K X1 (.type "object") = some true)
    (lX1 : K.lookup y1 = some ⟨ocX1, odX1, .func (PySem.W.fnOf "__init__" "NotFor.__init__" (defArgs sNotFor) (defBody sNotFor) (defScope sNotFor) .none kVX1 dcX1 pmX1 anX1 cdX1 ctX1), slX1⟩) (cX1 : PySem.W.codeIn K cdX1 "NotFor.__init__" = true) (kX1 : PySem.W.keepIn K (.ref y1) = true)
    (hnX : PySem.W.specialIn K (.builtin "object.__class__") "__get__" = some (some (.builtin "getset_descriptor.__get__"))) (htX : PySem.W.takesIn K (.builtin "object.__class__") = some true)
    (nQ0 : PySem.W.nsIn K mainGlobals "WeaveError" = some (some (.ref Q0)))
    (ki0_0 : PySem.W.kitOne K (.ref X0) (.ref Q0) = some true) (em0_0 : PySem.W.exmOne K (.ref X0) (.ref Q0) = some true)
    (ki0_1 : PySem.W.kitOne K (.ref X1) (.ref Q0) = some true) (em0_1 : PySem.W.exmOne K (.ref X1) (.ref Q0) = some true)
    (nQ1 : PySem.W.nsIn K mainGlobals "NotFor" = some (some (.ref Q1)))
    (ki1_0 : PySem.W.kitOne K (.ref X0) (.ref Q1) = some false) (em1_0 : PySem.W.exmOne K (.ref X0) (.ref Q1) = some false)
    (ki1_1 : PySem.W.kitOne K (.ref X1) (.ref Q1) = some true) (em1_1 : PySem.W.exmOne K (.ref X1) (.ref Q1) = some true)
    (nQ2 : PySem.W.nsIn K mainGlobals "BadText" = some (some (.ref Q2)))
    (ki2_0 : PySem.W.kitOne K (.ref X0) (.ref Q2) = some false) (em2_0 : PySem.W.exmOne K (.ref X0) (.ref Q2) = some false)
    (ki2_1 : PySem.W.kitOne K (.ref X1) (.ref Q2) = some false) (em2_1 : PySem.W.exmOne K (.ref X1) (.ref Q2) = some false)
    (nQ3 : PySem.W.nsIn K mainGlobals "CheckError" = some (some (.ref Q3)))
    (ki3_0 : PySem.W.kitOne K (.ref X0) (.ref Q3) = some false) (em3_0 : PySem.W.exmOne K (.ref X0) (.ref Q3) = some false)
    (ki3_1 : PySem.W.kitOne K (.ref X1) (.ref Q3) = some false) (em3_1 : PySem.W.exmOne K (.ref X1) (.ref Q3) = some false)
    (nQ4 : PySem.W.nsIn K mainGlobals "TooMany" = some (some (.ref Q4)))
    (ki4_0 : PySem.W.kitOne K (.ref X0) (.ref Q4) = some true) (em4_0 : PySem.W.exmOne K (.ref X0) (.ref Q4) = some true)
    (ki4_1 : PySem.W.kitOne K (.ref X1) (.ref Q4) = some false) (em4_1 : PySem.W.exmOne K (.ref X1) (.ref Q4) = some false)
    (z_len : PySem.W.nsIn K mainGlobals "len" = some none)
    (z_abs : PySem.W.nsIn K mainGlobals "abs" = some none)
    (z_max : PySem.W.nsIn K mainGlobals "max" = some none)
    (z_min : PySem.W.nsIn K mainGlobals "min" = some none)
    (z_sum : PySem.W.nsIn K mainGlobals "sum" = some none)
    (z_any : PySem.W.nsIn K mainGlobals "any" = some none)
    (z_all : PySem.W.nsIn K mainGlobals "all" = some none)
    (z_int : PySem.W.nsIn K mainGlobals "int" = some none)
    (z_bool : PySem.W.nsIn K mainGlobals "bool" = some none)
    (z_list : PySem.W.nsIn K mainGlobals "list" = some none)
    (z_tuple : PySem.W.nsIn K mainGlobals "tuple" = some none)
    (z_str : PySem.W.nsIn K mainGlobals "str" = some none)
    (z_isinstance : PySem.W.nsIn K mainGlobals "isinstance" = some none)
    (z_range : PySem.W.nsIn K mainGlobals "range" = some none)
    (z_dict : PySem.W.nsIn K mainGlobals "dict" = some none)
    (z_enumerate : PySem.W.nsIn K mainGlobals "enumerate" = some none)
    (z_sorted : PySem.W.nsIn K mainGlobals "sorted" = some none)
    (z_zip : PySem.W.nsIn K mainGlobals "zip" = some none)
    : ∃ fd : FuncData, (∀ (s : Shared) (v : Value), BindsTo s fd ⟨[v], []⟩ [("script", v)]) ∧ ∀ base : Heap, K.In base → base.Ns mainGlobals mg → FnOk PySem.Challenge.pw_weavewrit_k24_walk_order_and_bound w K mg base (L2.CX PySem.Challenge.pw_weavewrit_k24_walk_order_and_bound w) 40 fa fd ["script"] (spLawT (fun K => tblOf clN w K xcs) es 40 flaw K) := by
  have e := hfa.symm.trans (PySem.W.mg_of X G a24)
  cases e
  have F0 := fun_mk (st := efirst_state.st) l0 c0 k0
  have H0 : Has K mg efirst_state _ _ := ⟨fun_d F0, PySem.W.mg_of X G a0, a0, F0.binds fun _ _ _ _ _ _ us hl => match us, hl with | [_, _], _ => rfl⟩
  have F1 := fun_mk (st := ecan_take.st) l1 c1 k1
  have H1 : Has K mg ecan_take _ _ := ⟨fun_d F1, PySem.W.mg_of X G a1, a1, F1.binds fun _ _ _ _ _ _ us hl => match us, hl with | [_, _], _ => rfl⟩
  have F2 := fun_mk (st := etaken.st) l2 c2 k2
  have H2 : Has K mg etaken _ _ := ⟨fun_d F2, PySem.W.mg_of X G a2, a2, F2.binds fun _ _ _ _ _ _ us hl => match us, hl with | [_, _], _ => rfl⟩
  have F3 := fund_mk (st := ewalk.st) (dvs := [.int 3000]) (its := [.int 3000 tD3_0]) l3 c3 k3 (by decide) pD3 rfl (by repeat (first | exact .nil | refine .cons ⟨_, rfl⟩ ?_ | refine .cons rfl ?_))
  obtain ⟨us3_0, vs3_0, b3_0⟩ := F3.binds1 (ps := ["net", "numbers", "most"]) 3 1 (by decide) (by decide) fun T kV doc pm an cdv ct us its hl hi => match us, its, hl, hi with | [_, _, _], [_], _, _ => ⟨_, rfl, rfl⟩
  obtain ⟨us3_1, vs3_1, b3_1⟩ := F3.binds1 (ps := ["net", "numbers", "most"]) 2 0 (by decide) (by decide) fun T kV doc pm an cdv ct us its hl hi => match us, its, hl, hi with | [_, _], [_], _, _ => ⟨_, rfl, rfl⟩
  cases vs3_0
  have H3 : Has K mg ewalk _ _ := ⟨⟨_, F3⟩, PySem.W.mg_of X G a3, a3, b3_0⟩
  have F4 := fund_mk (st := edead_ends.st) (dvs := [.int 3000]) (its := [.int 3000 tD4_0]) l4 c4 k4 (by decide) pD4 rfl (by repeat (first | exact .nil | refine .cons ⟨_, rfl⟩ ?_ | refine .cons rfl ?_))
  obtain ⟨us4_0, vs4_0, b4_0⟩ := F4.binds1 (ps := ["net", "numbers", "most"]) 3 1 (by decide) (by decide) fun T kV doc pm an cdv ct us its hl hi => match us, its, hl, hi with | [_, _, _], [_], _, _ => ⟨_, rfl, rfl⟩
  obtain ⟨us4_1, vs4_1, b4_1⟩ := F4.binds1 (ps := ["net", "numbers", "most"]) 2 0 (by decide) (by decide) fun T kV doc pm an cdv ct us its hl hi => match us, its, hl, hi with | [_, _], [_], _, _ => ⟨_, rfl, rfl⟩
  cases vs4_0
  have H4 : Has K mg edead_ends _ _ := ⟨⟨_, F4⟩, PySem.W.mg_of X G a4, a4, b4_0⟩
  have F5 := fun_mk (st := e_law_begin.st) l5 c5 k5
  have H5 : Has K mg e_law_begin _ _ := ⟨fun_d F5, PySem.W.mg_of X G a5, a5, F5.binds fun _ _ _ _ _ _ us hl => match us, hl with | [_], _ => rfl⟩
  have F6 := fun_mk (st := e_law_draw.st) l6 c6 k6
  have H6 : Has K mg e_law_draw _ _ := ⟨fun_d F6, PySem.W.mg_of X G a6, a6, F6.binds fun _ _ _ _ _ _ us hl => match us, hl with | [_, _], _ => rfl⟩
  have F7 := fun_mk (st := e_law_pick.st) l7 c7 k7
  have H7 : Has K mg e_law_pick _ _ := ⟨fun_d F7, PySem.W.mg_of X G a7, a7, F7.binds fun _ _ _ _ _ _ us hl => match us, hl with | [_, _], _ => rfl⟩
  have F8 := fun_mk (st := e_law_rare.st) l8 c8 k8
  have H8 : Has K mg e_law_rare _ _ := ⟨fun_d F8, PySem.W.mg_of X G a8, a8, F8.binds fun _ _ _ _ _ _ us hl => match us, hl with | [_, _], _ => rfl⟩
  have F9 := fun_mk (st := e_law_shuffled.st) l9 c9 k9
  have H9 : Has K mg e_law_shuffled _ _ := ⟨fun_d F9, PySem.W.mg_of X G a9, a9, F9.binds fun _ _ _ _ _ _ us hl => match us, hl with | [_, _], _ => rfl⟩
  have F10 := fun_mk (st := e_law_pool.st) l10 c10 k10
  have H10 : Has K mg e_law_pool _ _ := ⟨fun_d F10, PySem.W.mg_of X G a10, a10, F10.binds fun _ _ _ _ _ _ us hl => match us, hl with | [], _ => rfl⟩
  have F11 := fun_mk (st := e_law_full.st) l11 c11 k11
  have H11 : Has K mg e_law_full _ _ := ⟨fun_d F11, PySem.W.mg_of X G a11, a11, F11.binds fun _ _ _ _ _ _ us hl => match us, hl with | [_], _ => rfl⟩
  have F12 := fun_mk (st := e_law_first.st) l12 c12 k12
  have H12 : Has K mg e_law_first _ _ := ⟨fun_d F12, PySem.W.mg_of X G a12, a12, F12.binds fun _ _ _ _ _ _ us hl => match us, hl with | [_, _], _ => rfl⟩
  have F13 := fun_mk (st := e_law_taken.st) l13 c13 k13
  have H13 : Has K mg e_law_taken _ _ := ⟨fun_d F13, PySem.W.mg_of X G a13, a13, F13.binds fun _ _ _ _ _ _ us hl => match us, hl with | [_, _], _ => rfl⟩
  have F14 := fun_mk (st := e_law_walk.st) l14 c14 k14
  have H14 : Has K mg e_law_walk _ _ := ⟨fun_d F14, PySem.W.mg_of X G a14, a14, F14.binds fun _ _ _ _ _ _ us hl => match us, hl with | [_, _, _], _ => rfl⟩
  have F15 := fun_mk (st := e_law_mask.st) l15 c15 k15
  have H15 : Has K mg e_law_mask _ _ := ⟨fun_d F15, PySem.W.mg_of X G a15, a15, F15.binds fun _ _ _ _ _ _ us hl => match us, hl with | [_, _], _ => rfl⟩
  have F16 := fun_mk (st := e_law_row.st) l16 c16 k16
  have H16 : Has K mg e_law_row _ _ := ⟨fun_d F16, PySem.W.mg_of X G a16, a16, F16.binds fun _ _ _ _ _ _ us hl => match us, hl with | [_, _, _, _], _ => rfl⟩
  have F17 := fun_mk (st := e_law_net_parts.st) l17 c17 k17
  have H17 : Has K mg e_law_net_parts _ _ := ⟨fun_d F17, PySem.W.mg_of X G a17, a17, F17.binds fun _ _ _ _ _ _ us hl => match us, hl with | [_, _, _, _], _ => rfl⟩
  have F18 := fun_mk (st := e_law_ring_parts.st) l18 c18 k18
  have H18 : Has K mg e_law_ring_parts _ _ := ⟨fun_d F18, PySem.W.mg_of X G a18, a18, F18.binds fun _ _ _ _ _ _ us hl => match us, hl with | [_], _ => rfl⟩
  have F19 := fun_mk (st := e_law_is_pair.st) l19 c19 k19
  have H19 : Has K mg e_law_is_pair _ _ := ⟨fun_d F19, PySem.W.mg_of X G a19, a19, F19.binds fun _ _ _ _ _ _ us hl => match us, hl with | [_], _ => rfl⟩
  have F20 := fun_mk (st := e_law_same_states.st) l20 c20 k20
  have H20 : Has K mg e_law_same_states _ _ := ⟨fun_d F20, PySem.W.mg_of X G a20, a20, F20.binds fun _ _ _ _ _ _ us hl => match us, hl with | [_, _], _ => rfl⟩
  have F21 := fun_mk (st := e_law_answered.st) l21 c21 k21
  have H21 : Has K mg e_law_answered _ _ := ⟨fun_d F21, PySem.W.mg_of X G a21, a21, F21.binds fun _ _ _ _ _ _ us hl => match us, hl with | [_, _, _, _], _ => rfl⟩
  have F22 := fun_mk (st := e_law_long_line.st) l22 c22 k22
  have H22 : Has K mg e_law_long_line _ _ := ⟨fun_d F22, PySem.W.mg_of X G a22, a22, F22.binds fun _ _ _ _ _ _ us hl => match us, hl with | [_], _ => rfl⟩
  have F23 := fun_mk (st := e_law_right.st) l23 c23 k23
  have H23 : Has K mg e_law_right _ _ := ⟨fun_d F23, PySem.W.mg_of X G a23, a23, F23.binds fun _ _ _ _ _ _ us hl => match us, hl with | [_, _, _, _, _, _], _ => rfl⟩
  have F24 := fun_mk (st := elaw.st) l24 c24 k24
  have H24 : Has K mg elaw _ _ := ⟨fun_d F24, PySem.W.mg_of X G a24, a24, F24.binds fun _ _ _ _ _ _ us hl => match us, hl with | [_], _ => rfl⟩
  refine ⟨PySem.W.fnOf "law" "law" (defArgs elaw.st) (defBody elaw.st) (defScope elaw.st) .none kV24 dc24 pm24 an24 cd24 ct24, fun s v => .of_eq rfl, fun base _ _ => prog_ok (es := es) (cs := cs) (cl := cls) (dn := dns) (xc := xcs) (xs := xss) (nn := nns) (df := dfs) (T := tblOf clN w K xcs) rfl ?_ fit_all ?_ (by decide +kernel) (cs_all ?_) ?_ ?_ (by decide +kernel) ?_ ?_ ?_ ?_ 40 flaw elaw _ _ rfl H24⟩
  · simp only [es, List.forall_mem_cons]
    exact ⟨⟨_, _, H0⟩, ⟨_, _, H1⟩, ⟨_, _, H2⟩, ⟨_, _, H3⟩, ⟨_, _, H4⟩, ⟨_, _, H5⟩, ⟨_, _, H6⟩, ⟨_, _, H7⟩, ⟨_, _, H8⟩, ⟨_, _, H9⟩, ⟨_, _, H10⟩, ⟨_, _, H11⟩, ⟨_, _, H12⟩, ⟨_, _, H13⟩, ⟨_, _, H14⟩, ⟨_, _, H15⟩, ⟨_, _, H16⟩, ⟨_, _, H17⟩, ⟨_, _, H18⟩, ⟨_, _, H19⟩, ⟨_, _, H20⟩, ⟨_, _, H21⟩, ⟨_, _, H22⟩, ⟨_, _, H23⟩, ⟨_, _, H24⟩, fun _ h => by cases h⟩
  · simp only [bltNames, List.map, List.forall_mem_cons]
    exact ⟨PySem.W.mg_none_of X G z_len, PySem.W.mg_none_of X G z_abs, PySem.W.mg_none_of X G z_max, PySem.W.mg_none_of X G z_min, PySem.W.mg_none_of X G z_sum, PySem.W.mg_none_of X G z_any, PySem.W.mg_none_of X G z_all, PySem.W.mg_none_of X G z_int, PySem.W.mg_none_of X G z_bool, PySem.W.mg_none_of X G z_list, PySem.W.mg_none_of X G z_tuple, PySem.W.mg_none_of X G z_str, PySem.W.mg_none_of X G z_isinstance, PySem.W.mg_none_of X G z_range, PySem.W.mg_none_of X G z_dict, PySem.W.mg_none_of X G z_enumerate, PySem.W.mg_none_of X G z_sorted, PySem.W.mg_none_of X G z_zip, fun _ h => by cases h⟩
  · intro p hp
    unfold cs at hp
    cases hp
  · intro x cn fs hx
    have hx := lookup_mem hx
    simp only [cls, List.mem_cons, List.not_mem_nil, or_false, Prod.mk.injEq] at hx
    obtain ⟨rfl, rfl, rfl⟩ := hx
    · have FC := fun_mk (st := sNet) lC0 cC0 kC0
      have NC : NewC K C0 h0 (["variables", "counters", "rows", "start", "counts", "added"] : List Str) := ⟨⟨pg0, hd0, po0, sa0⟩, by simp only [List.forall_mem_cons]; exact ⟨na0_variables, na0_counters, na0_rows, na0_start, na0_counts, na0_added, fun _ h => by cases h⟩, ⟨mk0, aC0, iC0, kc0⟩⟩
      exact ⟨_, _, _, tbl_at (cs := clN) (c := 0) rfl nC0, PySem.W.mg_of X G nC0, NC.made, FC.binds fun _ _ _ _ _ _ us hl => match us, hl with | [_, _, _, _, _, _, _], _ => rfl, new_ok FC (fnSc_ok (by kernel_rfl)) (by kernel_rfl) (by simp only [List.forall_mem_cons]; refine ⟨?_, ?_, ?_, ?_, ?_, ?_, ?_, fun _ h => by cases h⟩ <;> exact isVis_ok (by kernel_rfl)) (by decide +kernel) (by decide) NC⟩
  · intro cn C hT
    obtain ⟨x, hx, hn⟩ := tbl_inv hT
    simp only [clN, List.mem_cons, List.not_mem_nil, or_false] at hx
    subst hx
    · rw [nC0] at hn
      cases hn
      refine ⟨⟨pg0, hd0, po0, sa0⟩, ?_⟩
      rw [show cls.flatMap (fun p => p.2.2) = (["variables", "counters", "rows", "start", "counts", "added"] : List Str) from rfl]
      simp only [List.forall_mem_cons]
      exact ⟨na0_variables, na0_counters, na0_rows, na0_start, na0_counts, na0_added, fun _ h => by cases h⟩
  · intro x cn f hx
    have hx := lookup_mem hx
    simp only [xcs, List.mem_cons, List.not_mem_nil, or_false, Prod.mk.injEq] at hx
    rcases hx with ⟨rfl, rfl, rfl⟩ | ⟨rfl, rfl, rfl⟩
    · have FC := fun_mk (st := sTooMany) lX0 cX0 kX0
      have TX : XC K X0 y0 ["part"] := ⟨⟨⟨_, _, _, _, _, _, _, _, _, _, _, _, _, _, _, xX0, rfl⟩, saX0, exX0, tyX0, kcX0⟩, inX0, tiX0, (by simp only [List.forall_mem_cons]; exact ⟨nfX0, fun _ h => by cases h⟩), gaX0, ggX0, hdX0, haX0, hnX, htX, hmX0⟩
      exact ⟨_, _, _, tbl_xat (cs := clN) (xc := xcs) (c := 1) rfl rfl nX0, PySem.W.mg_of X G nX0, FC.binds fun _ _ _ _ _ _ us hl => match us, hl with | [_, _], _ => rfl, init_ok FC (fnSc_ok (by kernel_rfl)) rfl (isVis_ok (by kernel_rfl)) (isVis_ok (by kernel_rfl)) (by decide +kernel) (by decide +kernel) TX.oex nfX0, TX⟩
    · have FC := fun_mk (st := sNotFor) lX1 cX1 kX1
      have TX : XC K X1 y1 ["word"] := ⟨⟨⟨_, _, _, _, _, _, _, _, _, _, _, _, _, _, _, xX1, rfl⟩, saX1, exX1, tyX1, kcX1⟩, inX1, tiX1, (by simp only [List.forall_mem_cons]; exact ⟨nfX1, fun _ h => by cases h⟩), gaX1, ggX1, hdX1, haX1, hnX, htX, hmX1⟩
      exact ⟨_, _, _, tbl_xat (cs := clN) (xc := xcs) (c := 2) rfl rfl nX1, PySem.W.mg_of X G nX1, FC.binds fun _ _ _ _ _ _ us hl => match us, hl with | [_, _], _ => rfl, init_ok FC (fnSc_ok (by kernel_rfl)) rfl (isVis_ok (by kernel_rfl)) (isVis_ok (by kernel_rfl)) (by decide +kernel) (by decide +kernel) TX.oex nfX1, TX⟩
  · intro cn C f hT
    obtain ⟨p, hp, e1, e2, hn⟩ := tbl_xinv hT
    simp only [xcs, List.mem_cons, List.not_mem_nil, or_false] at hp
    rcases hp with rfl | rfl
    · dsimp only at e1 e2 hn
      rw [nX0] at hn
      cases hn
      subst e1 e2
      exact ⟨y0, ⟨⟨⟨_, _, _, _, _, _, _, _, _, _, _, _, _, _, _, xX0, rfl⟩, saX0, exX0, tyX0, kcX0⟩, inX0, tiX0, (by simp only [List.forall_mem_cons]; exact ⟨nfX0, fun _ h => by cases h⟩), gaX0, ggX0, hdX0, haX0, hnX, htX, hmX0⟩⟩
    · dsimp only at e1 e2 hn
      rw [nX1] at hn
      cases hn
      subst e1 e2
      exact ⟨y1, ⟨⟨⟨_, _, _, _, _, _, _, _, _, _, _, _, _, _, _, xX1, rfl⟩, saX1, exX1, tyX1, kcX1⟩, inX1, tiX1, (by simp only [List.forall_mem_cons]; exact ⟨nfX1, fun _ h => by cases h⟩), gaX1, ggX1, hdX1, haX1, hnX, htX, hmX1⟩⟩
  · intro x ns hx
    have hx := lookup_mem hx
    simp only [xss, List.mem_cons, List.not_mem_nil, or_false, Prod.mk.injEq] at hx
    rcases hx with ⟨rfl, rfl⟩ | ⟨rfl, rfl⟩ | ⟨rfl, rfl⟩ | ⟨rfl, rfl⟩ | ⟨rfl, rfl⟩
    · refine ⟨_, PySem.W.mg_of X G nQ0, fun cn C f hT => ?_⟩
      obtain ⟨p, hp, e1, e2, hn⟩ := tbl_xinv hT
      simp only [xcs, List.mem_cons, List.not_mem_nil, or_false] at hp
      rcases hp with rfl | rfl
      · dsimp only at e1 e2 hn
        rw [nX0] at hn
        cases hn
        subst e1 e2
        exact ⟨ki0_0, em0_0, fun h => by first | rfl | exact absurd h (by decide), fun h => by first | rfl | exact absurd (by decide) h⟩
      · dsimp only at e1 e2 hn
        rw [nX1] at hn
        cases hn
        subst e1 e2
        exact ⟨ki0_1, em0_1, fun h => by first | rfl | exact absurd h (by decide), fun h => by first | rfl | exact absurd (by decide) h⟩
    · refine ⟨_, PySem.W.mg_of X G nQ1, fun cn C f hT => ?_⟩
      obtain ⟨p, hp, e1, e2, hn⟩ := tbl_xinv hT
      simp only [xcs, List.mem_cons, List.not_mem_nil, or_false] at hp
      rcases hp with rfl | rfl
      · dsimp only at e1 e2 hn
        rw [nX0] at hn
        cases hn
        subst e1 e2
        exact ⟨ki1_0, em1_0, fun h => by first | rfl | exact absurd h (by decide), fun h => by first | rfl | exact absurd (by decide) h⟩
      · dsimp only at e1 e2 hn
        rw [nX1] at hn
        cases hn
        subst e1 e2
        exact ⟨ki1_1, em1_1, fun h => by first | rfl | exact absurd h (by decide), fun h => by first | rfl | exact absurd (by decide) h⟩
    · refine ⟨_, PySem.W.mg_of X G nQ2, fun cn C f hT => ?_⟩
      obtain ⟨p, hp, e1, e2, hn⟩ := tbl_xinv hT
      simp only [xcs, List.mem_cons, List.not_mem_nil, or_false] at hp
      rcases hp with rfl | rfl
      · dsimp only at e1 e2 hn
        rw [nX0] at hn
        cases hn
        subst e1 e2
        exact ⟨ki2_0, em2_0, fun h => by first | rfl | exact absurd h (by decide), fun h => by first | rfl | exact absurd (by decide) h⟩
      · dsimp only at e1 e2 hn
        rw [nX1] at hn
        cases hn
        subst e1 e2
        exact ⟨ki2_1, em2_1, fun h => by first | rfl | exact absurd h (by decide), fun h => by first | rfl | exact absurd (by decide) h⟩
    · refine ⟨_, PySem.W.mg_of X G nQ3, fun cn C f hT => ?_⟩
      obtain ⟨p, hp, e1, e2, hn⟩ := tbl_xinv hT
      simp only [xcs, List.mem_cons, List.not_mem_nil, or_false] at hp
      rcases hp with rfl | rfl
      · dsimp only at e1 e2 hn
        rw [nX0] at hn
        cases hn
        subst e1 e2
        exact ⟨ki3_0, em3_0, fun h => by first | rfl | exact absurd h (by decide), fun h => by first | rfl | exact absurd (by decide) h⟩
      · dsimp only at e1 e2 hn
        rw [nX1] at hn
        cases hn
        subst e1 e2
        exact ⟨ki3_1, em3_1, fun h => by first | rfl | exact absurd h (by decide), fun h => by first | rfl | exact absurd (by decide) h⟩
    · refine ⟨_, PySem.W.mg_of X G nQ4, fun cn C f hT => ?_⟩
      obtain ⟨p, hp, e1, e2, hn⟩ := tbl_xinv hT
      simp only [xcs, List.mem_cons, List.not_mem_nil, or_false] at hp
      rcases hp with rfl | rfl
      · dsimp only at e1 e2 hn
        rw [nX0] at hn
        cases hn
        subst e1 e2
        exact ⟨ki4_0, em4_0, fun h => by first | rfl | exact absurd h (by decide), fun h => by first | rfl | exact absurd (by decide) h⟩
      · dsimp only at e1 e2 hn
        rw [nX1] at hn
        cases hn
        subst e1 e2
        exact ⟨ki4_1, em4_1, fun h => by first | rfl | exact absurd h (by decide), fun h => by first | rfl | exact absurd (by decide) h⟩
  · intro x ds hx e he hex
    have hx := lookup_mem hx
    simp only [dfs, List.mem_cons, List.not_mem_nil, or_false, Prod.mk.injEq] at hx
    rcases hx with ⟨rfl, rfl⟩ | ⟨rfl, rfl⟩
    · have he : e = ewalk := by
        simp only [es, List.mem_cons, List.not_mem_nil, or_false] at he
        rcases he with rfl | rfl | rfl | rfl | rfl | rfl | rfl | rfl | rfl | rfl | rfl | rfl | rfl | rfl | rfl | rfl | rfl | rfl | rfl | rfl | rfl | rfl | rfl | rfl | rfl <;> first | rfl | exact absurd hex (by decide +kernel)
      subst he
      exact ⟨_, _, H3, [.int 3000], us3_1, fun _ _ _ => by repeat (first | exact .nil | refine .cons (.int _) ?_ | refine .cons .non ?_ | refine .cons (.bl _) ?_), vs3_1, b3_1⟩
    · have he : e = edead_ends := by
        simp only [es, List.mem_cons, List.not_mem_nil, or_false] at he
        rcases he with rfl | rfl | rfl | rfl | rfl | rfl | rfl | rfl | rfl | rfl | rfl | rfl | rfl | rfl | rfl | rfl | rfl | rfl | rfl | rfl | rfl | rfl | rfl | rfl | rfl <;> first | rfl | exact absurd hex (by decide +kernel)
      subst he
      exact ⟨_, _, H4, [.int 3000], us4_1, fun _ _ _ => by repeat (first | exact .nil | refine .cons (.int _) ?_ | refine .cons .non ?_ | refine .cons (.bl _) ?_), vs4_1, b4_1⟩
end K24
open PySem PySem.W PyProof.Rows
set_option maxHeartbeats 0 in
theorem PySem.Challenge.cw_weavewrit_k24_walk_order_and_bound_holds : PySem.Challenge.rw_weavewrit_k24_walk_order_and_bound.Holds := by
  w_on; o_law; k_head; (case hw => w_witness2)
  k_fill
  refine L2.walk_of (l := PySem.Challenge.rw_weavewrit_k24_walk_order_and_bound) (n := 63) (k := 40) (x := "script") (CX := fun w => L2.CX PySem.Challenge.pw_weavewrit_k24_walk_order_and_bound w) (sp := fun w => MP.spLawT (fun K => MP.tblOf K24.clN w K K24.xcs) K24.es 40 K24.flaw _) rfl (by decide) rfl ⟨rfl, by decide, by decide⟩ (fun w h Y => PySem.W.kIn_of Y) ?F (fun _ _ _ _ hl ho hS => MP.law_sp K24.law_ok hl ho hS) (fun _ _ _ _ _ h => by obtain ⟨_, _, _, _, _, _, _, _, _, _, _, _, z⟩ := h; exact z)
  case F =>
    intro w mg fa h KX G hmg
    refine' K24.all_mk KX G hmg ?a0 ?l0 ?c0 ?k0 ?a1 ?l1 ?c1 ?k1 ?a2 ?l2 ?c2 ?k2 ?a3 ?l3 ?c3 ?k3 ?pD3 ?a4 ?l4 ?c4 ?k4 ?pD4 ?a5 ?l5 ?c5 ?k5 ?a6 ?l6 ?c6 ?k6 ?a7 ?l7 ?c7 ?k7 ?a8 ?l8 ?c8 ?k8 ?a9 ?l9 ?c9 ?k9 ?a10 ?l10 ?c10 ?k10 ?a11 ?l11 ?c11 ?k11 ?a12 ?l12 ?c12 ?k12 ?a13 ?l13 ?c13 ?k13 ?a14 ?l14 ?c14 ?k14 ?a15 ?l15 ?c15 ?k15 ?a16 ?l16 ?c16 ?k16 ?a17 ?l17 ?c17 ?k17 ?a18 ?l18 ?c18 ?k18 ?a19 ?l19 ?c19 ?k19 ?a20 ?l20 ?c20 ?k20 ?a21 ?l21 ?c21 ?k21 ?a22 ?l22 ?c22 ?k22 ?a23 ?l23 ?c23 ?k23 ?a24 ?l24 ?c24 ?k24 ?nC0 ?aC0 ?iC0 ?lC0 ?cC0 ?kC0 ?pg0 ?hd0 ?po0 ?sa0 ?mk0 ?kc0 ?na0_variables ?na0_counters ?na0_rows ?na0_start ?na0_counts ?na0_added ?nX0 ?xX0 ?saX0 ?exX0 ?tyX0 ?kcX0 ?inX0 ?tiX0 ?nfX0 ?gaX0 ?ggX0 ?hdX0 ?haX0 ?hmX0 ?lX0 ?cX0 ?kX0 ?nX1 ?xX1 ?saX1 ?exX1 ?tyX1 ?kcX1 ?inX1 ?tiX1 ?nfX1 ?gaX1 ?ggX1 ?hdX1 ?haX1 ?hmX1 ?lX1 ?cX1 ?kX1 ?hnX ?htX ?nQ0 ?ki0_0 ?em0_0 ?ki0_1 ?em0_1 ?nQ1 ?ki1_0 ?em1_0 ?ki1_1 ?em1_1 ?nQ2 ?ki2_0 ?em2_0 ?ki2_1 ?em2_1 ?nQ3 ?ki3_0 ?em3_0 ?ki3_1 ?em3_1 ?nQ4 ?ki4_0 ?em4_0 ?ki4_1 ?em4_1 ?z_len ?z_abs ?z_max ?z_min ?z_sum ?z_any ?z_all ?z_int ?z_bool ?z_list ?z_tuple ?z_str ?z_isinstance ?z_range ?z_dict ?z_enumerate ?z_sorted ?z_zip
    (case a0 => k_is); (case l0 => k_is); (case c0 => k_is); (case k0 => k_is); (case a1 => k_is); (case l1 => k_is); (case c1 => k_is); (case k1 => k_is); (case a2 => k_is); (case l2 => k_is); (case c2 => k_is); (case k2 => k_is); (case a3 => k_is); (case l3 => k_is); (case c3 => k_is); (case k3 => k_is); (case pD3 => k_is); (case a4 => k_is); (case l4 => k_is); (case c4 => k_is); (case k4 => k_is); (case pD4 => k_is); (case a5 => k_is); (case l5 => k_is); (case c5 => k_is); (case k5 => k_is); (case a6 => k_is); (case l6 => k_is); (case c6 => k_is); (case k6 => k_is); (case a7 => k_is); (case l7 => k_is); (case c7 => k_is); (case k7 => k_is); (case a8 => k_is); (case l8 => k_is); (case c8 => k_is); (case k8 => k_is); (case a9 => k_is); (case l9 => k_is); (case c9 => k_is); (case k9 => k_is); (case a10 => k_is); (case l10 => k_is); (case c10 => k_is); (case k10 => k_is); (case a11 => k_is); (case l11 => k_is); (case c11 => k_is); (case k11 => k_is); (case a12 => k_is); (case l12 => k_is); (case c12 => k_is); (case k12 => k_is); (case a13 => k_is); (case l13 => k_is); (case c13 => k_is); (case k13 => k_is); (case a14 => k_is); (case l14 => k_is); (case c14 => k_is); (case k14 => k_is); (case a15 => k_is); (case l15 => k_is); (case c15 => k_is); (case k15 => k_is); (case a16 => k_is); (case l16 => k_is); (case c16 => k_is); (case k16 => k_is); (case a17 => k_is); (case l17 => k_is); (case c17 => k_is); (case k17 => k_is); (case a18 => k_is); (case l18 => k_is); (case c18 => k_is); (case k18 => k_is); (case a19 => k_is); (case l19 => k_is); (case c19 => k_is); (case k19 => k_is); (case a20 => k_is); (case l20 => k_is); (case c20 => k_is); (case k20 => k_is); (case a21 => k_is); (case l21 => k_is); (case c21 => k_is); (case k21 => k_is); (case a22 => k_is); (case l22 => k_is); (case c22 => k_is); (case k22 => k_is); (case a23 => k_is); (case l23 => k_is); (case c23 => k_is); (case k23 => k_is); (case a24 => k_is); (case l24 => k_is); (case c24 => k_is); (case k24 => k_is); (case nC0 => k_is); (case aC0 => k_is); (case iC0 => k_is); (case lC0 => k_is); (case cC0 => k_is); (case kC0 => k_is); (case pg0 => k_is); (case hd0 => k_is); (case po0 => k_is); (case sa0 => k_is); (case mk0 => k_is); (case kc0 => k_is); (case na0_variables => k_is); (case na0_counters => k_is); (case na0_rows => k_is); (case na0_start => k_is); (case na0_counts => k_is); (case na0_added => k_is); (case nX0 => k_is); (case xX0 => k_is); (case saX0 => k_is); (case exX0 => k_is); (case tyX0 => k_is); (case kcX0 => k_is); (case inX0 => k_is); (case tiX0 => k_is); (case nfX0 => k_is); (case gaX0 => k_is); (case ggX0 => k_is); (case hdX0 => k_is); (case haX0 => k_is); (case hmX0 => k_is); (case lX0 => k_is); (case cX0 => k_is); (case kX0 => k_is); (case nX1 => k_is); (case xX1 => k_is); (case saX1 => k_is); (case exX1 => k_is); (case tyX1 => k_is); (case kcX1 => k_is); (case inX1 => k_is); (case tiX1 => k_is); (case nfX1 => k_is); (case gaX1 => k_is); (case ggX1 => k_is); (case hdX1 => k_is); (case haX1 => k_is); (case hmX1 => k_is); (case lX1 => k_is); (case cX1 => k_is); (case kX1 => k_is); (case hnX => k_is); (case htX => k_is); (case nQ0 => k_is); (case ki0_0 => kernel_rfl); (case em0_0 => kernel_rfl); (case ki0_1 => kernel_rfl); (case em0_1 => kernel_rfl); (case nQ1 => k_is); (case ki1_0 => kernel_rfl); (case em1_0 => kernel_rfl); (case ki1_1 => kernel_rfl); (case em1_1 => kernel_rfl); (case nQ2 => k_is); (case ki2_0 => kernel_rfl); (case em2_0 => kernel_rfl); (case ki2_1 => kernel_rfl); (case em2_1 => kernel_rfl); (case nQ3 => k_is); (case ki3_0 => kernel_rfl); (case em3_0 => kernel_rfl); (case ki3_1 => kernel_rfl); (case em3_1 => kernel_rfl); (case nQ4 => k_is); (case ki4_0 => kernel_rfl); (case em4_0 => kernel_rfl); (case ki4_1 => kernel_rfl); (case em4_1 => kernel_rfl); (case z_len => k_is); (case z_abs => k_is); (case z_max => k_is); (case z_min => k_is); (case z_sum => k_is); (case z_any => k_is); (case z_all => k_is); (case z_int => k_is); (case z_bool => k_is); (case z_list => k_is); (case z_tuple => k_is); (case z_str => k_is); (case z_isinstance => k_is); (case z_range => k_is); (case z_dict => k_is); (case z_enumerate => k_is); (case z_sorted => k_is); (case z_zip => k_is)
