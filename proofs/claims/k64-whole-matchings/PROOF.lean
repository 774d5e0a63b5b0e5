import PyProof.Rows.All
import Wide.All
import OpenK.AllK
import Wide.FinOn
import HandS.ForMost
import HandS.TupAny
import HandS.Deep
import HandS.Conv
import HandS.IsInst
import HandS.Zip
import HandS.Flow
import HandS.Star
import HandS.Style
import HandS.Walk
import HandS.Evl
import KE.SortData
import KE.GoesEnum
import PySem.Challenge.RW_everychange_k64_whole_matchings_by_all_o
set_option Elab.async false
set_option linter.all false
set_option maxRecDepth 100000
set_option maxHeartbeats 4000000
namespace Gap
open PySem PySem.Spec PyProof.Rows L2
section
variable {X : Cx}
/-- x in c, x not in c: c a list or a tuple of data of any depth -/
def rInS (K : PySem.W.Frag) (neg : Bool) : R2 := fun x y H Q => ∃ d ds c, Dp K H x d ∧ Dp K H y c ∧ (c = .list ds ∨ c = .tuple ds) ∧ SeqAt.shaped d = true ∧ SeqAt.shaped c = true ∧
  Q (.bl (if neg then !(ds.any fun z => PyData.eqv z d) else ds.any fun z => PyData.eqv z d)) H
theorem op_inS (hu : X.A.units + 65 < cLine) : OpR X (compareOp .In) (rInS X.K false) := by
  intro pins s σ H x y v u Q I rx ry h
  obtain ⟨d, ds, c, hd, he, hc, sd, se, q⟩ := h
  obtain ⟨as, r1⟩ := Dp.reads I d x v hd rx
  obtain ⟨bs, r2⟩ := Dp.reads I c y u he ry
  rcases hc with rfl | rfl
  · exact SeqAt.in_list_reads r2 r1 (SeqAt.canLay_of_shaped se) (SeqAt.canLay_of_shaped sd) (room_in_shaped sd hu) ⟨.bl _, H, I, rfl, q⟩
  · exact SeqAt.in_tuple_reads r2 r1 (SeqAt.canLay_of_shaped se) (SeqAt.canLay_of_shaped sd) (room_in_shaped sd hu) ⟨.bl _, H, I, rfl, q⟩
theorem op_notInS (hu : X.A.units + 65 < cLine) : OpR X (compareOp .NotIn) (rInS X.K true) := by
  intro pins s σ H x y v u Q I rx ry h
  obtain ⟨d, ds, c, hd, he, hc, sd, se, q⟩ := h
  obtain ⟨as, r1⟩ := Dp.reads I d x v hd rx
  obtain ⟨bs, r2⟩ := Dp.reads I c y u he ry
  rcases hc with rfl | rfl
  · exact SeqAt.notIn_list_reads r2 r1 (SeqAt.canLay_of_shaped se) (SeqAt.canLay_of_shaped sd) (room_in_shaped sd hu) ⟨.bl _, H, I, rfl, q⟩
  · exact SeqAt.notIn_tuple_reads r2 r1 (SeqAt.canLay_of_shaped se) (SeqAt.canLay_of_shaped sd) (room_in_shaped sd hu) ⟨.bl _, H, I, rfl, q⟩

/-- list + list, both read -/
def rCatL (K : PySem.W.Frag) : R2 := fun x y H Q => ∃ l b xs zs, x = .ref l ∧ y = .ref b ∧ SqL K H l xs ∧ SqL K H b zs ∧ xs.length + zs.length ≤ sizeLine ∧ ∀ p, H p = none → Q (.ref p) (upd H p (.lst (xs ++ zs)))
theorem op_catL : OpR X (binaryOp .Add) (rCatL X.K) := by
  intro pins s σ H x y v u Q I rx ry h
  obtain ⟨l, b, xs, zs, rfl, rfl, hH, hB, hz, q⟩ := h
  cases rx
  cases ry
  obtain ⟨its, r, hl, z⟩ := I.list hH
  obtain ⟨its2, r2, hl2, z2⟩ := I.list hB
  obtain ⟨⟨cls, dd, data, sl⟩, ho, hc, n, hd⟩ := id hl.isList
  obtain ⟨⟨cls2, dd2, data2, sl2⟩, ho2, hc2, n2, hd2⟩ := id hl2.isList
  simp only at hc hd hc2 hd2
  subst hc hd hc2 hd2
  have e : its.toArray ++ its2.toArray = (its ++ its2).toArray := by simp
  have l1 := r.length
  have l2 := r2.length
  refine concat_meets ⟨_, ho, rfl⟩ ⟨_, ho2, rfl⟩ noFill_list_add seq_list_add PySem.F.slot_list_add PySem.F.entry_list_add (PySem.F.args_list_add_2 _ _) (list_addW l b its.toArray its2.toArray n n2 dd dd2 sl sl2 (by rw [List.size_toArray, List.size_toArray]; omega)) ⟨ho, ho2, ?_⟩
  rw [e]
  exact ⟨.ref _, _, I.lnew (t' := s.toks) (r.append r2) (by rw [List.length_append]; omega), rfl, q _ I.fresh⟩
end

/-! ### sorted of a list or a tuple of data -/
section
open PySem.W PySem.Calls
variable {prog : Program} {w : World} {A : Around} {E : Value → Shared → Prop} {s : Shared}
theorem sorted_seq {it : Addr} {T : String} {o : Obj} {vs : List Value} {n : Nat} {Q : Value → Shared → Prop} (hT : T = "list" ∨ T = "tuple") (ho : s.heap.get? it = some o) (hc : o.cls = .type T) (hd : o.data = .seq vs.toArray n) (hL : vs.length ≤ sizeLine)
    (body : ∀ (h' : Heap) (E' : Value → Shared → Prop), (∀ b u, s.heap.get? b = some u → h'.get? b = some u) → wpAny (model prog w) A.in1.in1 (Builtin.«list.sort» ⟨[.ref h'.objs.size], []⟩) (fun f s' => f = .done (.ret .none) ∧ Q (.ref h'.objs.size) s') E' { s with heap := h'.push (seqObj "list" vs.toArray 0) }) :
    wpAny (model prog w) A (call (.builtin "sorted") [.ref it]) Q E s := by
  refine call_function_entry_kw kind_sorted plain_sorted entry_sorted (args_sorted1 _) ?_
  unfold Builtin.«sorted»
  refine wpAny_bind (m := checkCount "sorted" 1 1 _) (wpAny_pure ?_)
  refine wpAny_bind (wpAny_collect_seq it hT ho hc hd (fun h' k => ?_) (by rw [List.size_toArray]; exact hL))
  have e : vs.toArray.toList = vs := by simp
  rw [e]
  refine wpAny_bind (wpAny_newList ?_ hL)
  show wpAny _ _ _ _ _ { s with heap := h'.push (seqObj "list" vs.toArray 0) }
  have hoL : (h'.push (seqObj "list" vs.toArray 0)).get? h'.objs.size = some (seqObj "list" vs.toArray 0) := Heap.get?_push_size _ rfl
  refine wpAny_bind (wpAny_holding (wpAny_call_entry_kw slot_list_sort ⟨_, hoL, rfl⟩ entry_list_sort ?body (args_list_sort _)))
  case body =>
    show wpAny (model prog w) A.in1.in1 (Builtin.«list.sort» ⟨[.ref h'.objs.size], []⟩) _ _ _
    refine wpAny_mono (body h' _ k) (fun f s' hf => ?_) fun _ _ e => e
    obtain ⟨rfl, hq⟩ := hf
    exact ⟨_, rfl, wpAny_pure ⟨_, rfl, hq⟩⟩
end
section
variable {X : Cx} {pins : List (Addr × Obj)} {s : Shared} {σ : L2.St} {H : Hp}
theorem each_of {K : PySem.W.Frag} {G : Hp} {β : Type} (enc : β → PyData) : ∀ {xs : List V} {us : List Value} {bs : List β}, Vals xs us → DpAll K G xs (bs.map enc) → PySem.W.EachIs (fun v b => ∃ x, RelV x v ∧ Dp K G x (enc b)) us bs
  | _, _, [], r, d => by
    have d' : DpAll K G _ [] := d
    cases d'
    cases r
    exact .nil
  | _, _, b :: bs, r, d => by
    have d' : DpAll K G _ (enc b :: bs.map enc) := d
    cases d' with
    | cons h1 h2 =>
      cases r with
      | cons r1 r2 => exact .cons ⟨_, r1, h1⟩ (each_of enc r2 h2)
theorem of_each {K : PySem.W.Frag} {G : Hp} {β : Type} (enc : β → PyData) : ∀ {us : List Value} {bs : List β}, PySem.W.EachIs (fun v b => ∃ x, RelV x v ∧ Dp K G x (enc b)) us bs → ∃ ys, Vals ys us ∧ DpAll K G ys (bs.map enc)
  | _, _, .nil => ⟨[], .nil, .nil⟩
  | _, _, .cons ⟨x, r, d⟩ t => by
    obtain ⟨ys, h1, h2⟩ := of_each enc t
    exact ⟨x :: ys, .cons r h1, .cons d h2⟩
theorem each_mono {α β : Type} {R S : α → β → Prop} (h : ∀ a b, R a b → S a b) : ∀ {us : List α} {bs : List β}, PySem.W.EachIs R us bs → PySem.W.EachIs S us bs
  | _, _, .nil => .nil
  | _, _, .cons x t => .cons (h _ _ x) (each_mono h t)
theorem each_len {α β : Type} {R : α → β → Prop} : ∀ {us : List α} {bs : List β}, PySem.W.EachIs R us bs → us.length = bs.length
  | _, _, .nil => rfl
  | _, _, .cons _ t => by
    simp only [List.length_cons]
    rw [each_len t]
def rSortS (K : PySem.W.Frag) {β : Type} (enc : β → PyData) : List V → Hp → VK → Prop := fun vs H Q => ∃ (a : Addr) (xs : List V) (bs : List β) (G : Hp), vs = [V.ref a] ∧ (SqL K H a xs ∨ SqT K H a xs) ∧ (∀ x d, Dp K G x d → Dp K H x d) ∧ DpAll K G xs (bs.map enc) ∧ PySem.W.AllAlike (bs.map enc) ∧ PySem.W.Sortable (bs.map enc) ∧
  (∀ b, b ∈ bs → (enc b).depth ≤ 60) ∧ ∀ (ys : List V) (p : Addr), H p = none → DpAll K G ys ((bs.mergeSort (PySem.W.dataLe false enc)).map enc) → Q (.ref p) (upd H p (.lst ys))
theorem cr_sortS {β : Type} (enc : β → PyData) (hu : X.A.units + 64 < cLine) : CallR X (.builtin "sorted") (rSortS X.K enc) := by
  intro pins s σ H vs us Q I r h
  obtain ⟨a, xs, bs, G, rfl, hs, hgh, hd, hal, hk, hde, q⟩ := h
  rw [Vals.ref1 r]
  have main : ∀ (its : List Value) (o : Obj) (n : Nat) (T : String), Vals xs its → xs.length ≤ sizeLine → (T = "list" ∨ T = "tuple") → s.heap.get? a = some o → o.cls = .type T → o.data = .seq its.toArray n →
      wpAny (model X.prog X.w) X.A (call (.builtin "sorted") [.ref a]) (EP X pins σ Q) X.xe s := by
    intro its o n T rv hz hT ho hc hdt
    have hlen := rv.length
    have ec := each_of enc rv hd
    have er : PySem.W.EachIs (fun v b => ∃ as, Reads s.heap v (enc b) as) its bs := each_mono (fun v b ⟨x, r1, d1⟩ => Dp.reads I (enc b) x v (hgh _ _ d1) r1) ec
    refine sorted_seq hT ho hc hdt (by omega) fun h' E' k => ?_
    have hoL : (h'.push (seqObj "list" its.toArray 0)).get? h'.objs.size = some (seqObj "list" its.toArray 0) := Heap.get?_push_size _ rfl
    have k1 : ∀ b u, s.heap.get? b = some u → (h'.push (seqObj "list" its.toArray 0)).get? b = some u := fun b u e => Heap.get?_push_of_some _ (k b u e)
    have ltk : ∀ b u, s.heap.get? b = some u → b ≠ h'.objs.size := fun b u e => Nat.ne_of_lt (Heap.lt_size (k b u e))
    have er' : PySem.W.EachIs (fun v b => ∃ as, Reads (PySem.W.sortingHeap (h'.push (seqObj "list" its.toArray 0)) h'.objs.size its) v (enc b) as) its bs := er.mono fun _ _ ⟨as, r⟩ => ⟨as, PyProof.Rows.Reads.keeps (fun b u e => PySem.W.sortingHeap_old (ltk b u e) (k1 b u e)) r⟩
    refine PySem.W.list_sort_vals (κ := PySem.W.dataKind (PySem.W.sortingHeap (h'.push (seqObj "list" its.toArray 0)) h'.objs.size its) (bs.map enc)) (s := { s with heap := h'.push (seqObj "list" its.toArray 0) }) hoL
      (PySem.W.SortsAt.data (s := { s with heap := PySem.W.sortingHeap (h'.push (seqObj "list" its.toArray 0)) h'.objs.size its }) (PySem.W.each_map (R := fun v d => ∃ as, Reads (PySem.W.sortingHeap (h'.push (seqObj "list" its.toArray 0)) h'.objs.size its) v d as) enc er') hal hk ?_) (by omega) ⟨rfl, ?_⟩
    · intro d hd
      obtain ⟨b, hb, rfl⟩ := List.mem_map.mp hd
      have := hde b hb
      show X.A.units + 2 + (enc b).depth < cLine
      omega
    · have ef := PySem.W.sortVals_data (h' := PySem.W.sortingHeap (h'.push (seqObj "list" its.toArray 0)) h'.objs.size its) false ec er' hal
      obtain ⟨ys, hv, hdp⟩ := of_each enc ef
      obtain ⟨c, hc'⟩ := sortedHeap_at (vs := its) (out := (PySem.W.sortVals (PySem.W.dataKind (PySem.W.sortingHeap (h'.push (seqObj "list" its.toArray 0)) h'.objs.size its) (bs.map enc)) false its its).toArray) hoL
      have I1 : L2.Inv X pins σ H { s with heap := h' } := I.kept (t' := s.toks) k
      refine ⟨.ref h'.objs.size, upd H h'.objs.size (.lst ys), I1.laid (t' := s.toks) (fun b u e => (sortedHeap_old (Nat.ne_of_lt (Heap.lt_size e)) (Heap.lt_size (Heap.get?_push_of_some _ e))).trans (Heap.get?_push_of_some _ e)) (Nat.le_refl _) ⟨?_, _, c, hv, hc'⟩, rfl, q _ _ (I1.hok.fresh (Nat.le_refl _)) hdp⟩
      have := hv.length
      rw [this, PySem.W.sortVals_length false rfl]
      omega
  rcases hs with hs | hs
  · obtain ⟨its, rv, hl, hz⟩ := I.list hs
    obtain ⟨o, ho, hc, n, hdt⟩ := hl.isList
    exact main its o n "list" rv hz (.inl rfl) ho hc hdt
  · obtain ⟨its, rv, ⟨o, ho, hc, n, hdt⟩, hz⟩ := I.tuple hs
    exact main its o n "tuple" rv hz (.inr rfl) ho hc hdt
end
end Gap

/-! ### enumerate of a tuple -/
namespace Gap
open PySem PySem.Spec PyProof.Rows L2
set_option maxHeartbeats 1000000 in
theorem meets_enumerate_newT {v : Value} {o : Obj} {H : Heap → Prop} (B : Begins v o H) :
    Meets (Builtin.«enumerate.__new__» ⟨[.type "enumerate", v], []⟩) (fun _ R s => H s.heap ∧
      R (.ok (.ret (.ref (s.heap.push o).objs.size))) { s with heap := (s.heap.push o).push { cls := .type "enumerate", data := .fields #[.none, .bool false, .ref s.heap.objs.size, rawInt 0, .none, .none] } }) :=
  .of_wp fun prog w A R s h => by
    obtain ⟨hp, g, d, tk, os⟩ := s; obtain ⟨h1, h⟩ := h
    have hsub := sub_enumerate
    have q1 : ∀ {A' : Around} {E : Value → Shared → Prop} {Q : Value → Shared → Prop}, Q (.ref hp.objs.size) ⟨hp.push o, g, d, tk, os⟩ → wpAny (model prog w) A' (pyIter v) Q E ⟨hp, g, d, tk, os⟩ :=
      fun q => B.iter prog w _ _ ⟨hp, g, d, tk, os⟩ _ h1 q
    wp_walk using q1
    refine wpAny_stack_any fun st => wpAny_pure ?_
    split
    · rename_i c _ _ _ _ _
      cases (c == Value.type "enumerate")
      · wp_walk using q1
        exact ⟨_, rfl, h⟩
      · wp_walk using q1
        exact ⟨_, rfl, h⟩
    · wp_walk using q1
      exact ⟨_, rfl, h⟩
section
variable {prog : Program} {w : World} {A : Around} {E : Value → Shared → Prop} {s : Shared}
theorem call_enumerate_tuple {l : Addr} {items : Array Value} {Q : Value → Shared → Prop} (hL : s.heap.IsTuple l items)
    (h : ∀ h', IsEnum h' (s.heap.objs.size + 1) s.heap.objs.size 0 .none → h'.IsTupleIter s.heap.objs.size l 0 → h'.objs.size = s.heap.objs.size + 2 →
      (∀ b o, s.heap.get? b = some o → h'.get? b = some o) → Q (.ref (s.heap.objs.size + 1)) { s with heap := h' }) :
    wpAny (model prog w) A (call (.type "enumerate") [.ref l]) Q E s := by
  have B := begins_tuple l items
  refine callType_new F.called_enumerate (by decide) (F.typeCall_enumerate_1 _) (F.newCall_enumerate_1 _) (fun obj => F.args_object_init_2 obj _) F.entry_enumerate_new
    (meets_enumerate_newT B) ⟨hL, ?_⟩
  have hz : (s.heap.push { cls := .type "tuple_iterator", data := .fields #[.ref l, .int 0 0] }).objs.size = s.heap.objs.size + 1 := Heap.size_push ..
  show _ ∧ _
  rw [hz]
  have he : IsEnum ((s.heap.push { cls := .type "tuple_iterator", data := .fields #[.ref l, .int 0 0] }).push { cls := .type "enumerate", data := .fields #[.none, .bool false, .ref s.heap.objs.size, rawInt 0, .none, .none] }) (s.heap.objs.size + 1) s.heap.objs.size 0 .none := by
    have := Heap.get?_push_size (s.heap.push { cls := .type "tuple_iterator", data := .fields #[.ref l, .int 0 0] }) (o := { cls := .type "enumerate", data := .fields #[.none, .bool false, .ref s.heap.objs.size, rawInt 0, .none, .none] }) rfl
    rw [hz] at this; exact this
  refine ⟨⟨_, he, rfl⟩, h _ he ⟨_, Heap.get?_push_of_some _ (Heap.get?_push_size _ B.free), rfl, rfl⟩ (by rw [Heap.size_push, hz]) fun b o x => Heap.get?_push_of_some _ (Heap.get?_push_of_some _ x)⟩
end
/-- the tuple at a as it stands at each turn, each item in a new pair -/
def IteT (K : PySem.W.Frag) (a : Addr) : It :=
  ⟨fun i H => ∃ (xs : List V) (x : V), SqT K H a xs ∧ xs[i]? = some x, fun i H v H' => ∃ T x, v = .ref T ∧ H T = none ∧ H' = upd H T (.tup [.int (i : Nat), x]) ∧ ∀ xs, SqT K H a xs → xs[i]? = some x, fun i H => ∃ xs : List V, SqT K H a xs ∧ xs.length ≤ i⟩
theorem turn_enumT {P : Program} {w : World} {K : PySem.W.Frag} {elts : List Expr} {kk : Nat} {tpos : Pos} (a e it : Addr) :
    Turn P w K (.Tuple elts kk tpos) (IteT K a) [e, it] e (fun i h => (∃ old, IsEnum h e it ((i : Nat) : Int) old) ∧ h.IsTupleIter it a i ∧ e ≠ it ∧ a ≠ it ∧ a ≠ e) where
  mem := by simp
  obj := fun i h st b hb => by
    obtain ⟨⟨old, he⟩, ⟨o, ho, hc, hd⟩, _⟩ := st
    have e' : b = e ∨ b = it := by simpa using hb
    rcases e' with z | z
    · rw [z]; exact ⟨_, he, fun v q => nomatch q⟩
    · rw [z]; exact ⟨o, ho, fun v q => by rw [hd] at q; cases q⟩
  keep := fun i h h' st k => let ⟨⟨old, he⟩, hi, hne⟩ := st; ⟨⟨old, k e (by simp) _ he⟩, hi.at fun o q => k it (by simp) o q, hne⟩
  item := by
    intro X hP hw hK hc i pins s σ H E I hf st hg
    subst hP hw hK
    obtain ⟨⟨old, he⟩, hit, hne, hai, hae⟩ := st
    obtain ⟨xs, x, hq, hx⟩ := hg
    obtain ⟨its, rv, p, hz⟩ := I.tuple hq
    obtain ⟨u, hu, ru⟩ := rv.get hx
    have hel : e < s.heap.objs.size := Heap.lt_size he
    have hil : it < s.heap.objs.size := by obtain ⟨_, q, _⟩ := hit; exact Heap.lt_size q
    have D := Draws.tuple (prog := X.prog) (w := X.w) (A := X.A.in1) (I.ok.hd hc) it a hai its.toArray
    have hui : its.toArray[i]? = some u := by simpa using hu
    have hlt : i < its.toArray.size := (Array.getElem?_eq_some_iff.mp hui).1
    refine wpAny_pyNext_enum_itemD D he ⟨hit, p⟩ hlt hne (by simp; exact ⟨hne, fun z => hae z.symm⟩) fun x' h' tk hx' ho hit' hT hsz hk => ?_
    have hxu : x' = u := by
      have z : its.toArray[i]? = some x' := hx'
      rw [hui] at z
      exact (Option.some.inj z).symm
    subst hxu
    refine ⟨_, rfl, wpAny_letOwnedTupleGo_enum (s := { s with heap := h', toks := tk + 1 }) ho fun h'' he' sb => ?_⟩
    have hT2 : h''.get? s.heap.objs.size = some { cls := .type "tuple", data := .seq #[.int i tk, x'] } := (sb.2 _ (Nat.ne_of_gt hel)).trans hT
    have new : ObjOk X.prog X.w (upd H s.heap.objs.size (.tup [.int (i : Nat), x])) h'' s.heap.objs.size (.tup [.int (i : Nat), x]) :=
      ⟨by show 2 ≤ sizeLine; decide, [.int i tk, x'], .cons ⟨_, rfl⟩ (.cons ru .nil), ⟨_, hT2, rfl, _, rfl⟩⟩
    have I1 : L2.Inv X pins σ (upd H s.heap.objs.size (.tup [.int (i : Nat), x])) { s with heap := h'', toks := tk + 1 } :=
      I.turnedNew (ch := [e, it]) (fun b ob hb q => (sb.2 b (fun z => hb (by simp [z]))).trans (hk b ob (fun z => hb (by simp [z])) (fun z => hb (by simp [z])) q)) hf (Nat.le_refl _) new
    refine ⟨.ref s.heap.objs.size, _, I1, rfl, ⟨_, x, rfl, I.hok.fresh (Nat.le_refl _), rfl, fun ys hy => by rw [I.tuple_inj hy hq]; exact hx⟩, ⟨⟨x', ?_⟩, hit'.1.at fun o q => (sb.2 it (Ne.symm hne)).trans q, hne, hai, hae⟩, fun b hb => ?_⟩
    · have e1 : ((i + 1 : Nat) : Int) = (i : Int) + 1 := by omega
      rw [e1]; exact he'
    · have hb' : b < s.heap.objs.size := by
        have e' : b = e ∨ b = it := by simpa using hb
        rcases e' with z | z
        · rw [z]; exact hel
        · rw [z]; exact hil
      rw [upd_ne (Nat.ne_of_lt hb')]
      exact (hf b hb).1
  done := by
    intro X hP hw hK hc i pins s σ H E I hf st hg
    subst hP hw hK
    obtain ⟨⟨old, he⟩, hit, hne, hai, hae⟩ := st
    obtain ⟨xs, hq, hx⟩ := hg
    obtain ⟨its, rv, p, hz⟩ := I.tuple hq
    obtain ⟨f0, f1, f2, f3, f4, f5⟩ := hf it (by simp)
    have hl := rv.length
    have hh := I.ok.hd hc
    have hT : s.TypeIs (.ref e) "enumerate" := ⟨_, he, rfl⟩
    unfold pyNext
    refine wpAny_bind (wpAny_attempt (wpAny_callSpecial?_slot (name := Str.ofString "__next__") hT PySem.F.slot_enumerate_next
      (wpAny_call_entry PySem.F.slot_enumerate_next hT PySem.F.entry_enumerate_next ?_ (PySem.F.args_enumerate_next_1 _))))
    show wpAny _ _ (field (.ref e) 2 >>= _) _ _ _
    refine wpAny_bind (wpAny_field he rfl (x := .ref it) rfl ?_)
    refine wpAny_bind (RZ.nextOf_tuple_end hh hit p (by simp; omega) fun h' x he' hx' => ?_)
    obtain ⟨o, ho, hc⟩ := hx'
    refine wpAny_bind (wpAny_isInstance (T := "StopIteration") (b := true) ⟨o, ho, hc⟩ isSubtype_stop ?_)
    exact wpAny_pure ⟨rfl, I.turned (t' := s.toks) (fun b o hb q => he' b o hb q) f0 f1 f3 f4 f5⟩
  self := fun A i s Q E st h => let ⟨⟨_, he⟩, _⟩ := st; wpAny_pyIter_enum he h
def iEnumT (K : PySem.W.Frag) (ta : TA) : TI := fun σ H R => ta σ H fun vs H1 => ∃ a xs, vs = [.ref a] ∧ SqT K H1 a xs ∧ R (IteT K a) H1
theorem pi_enumT {X : Cx} {e : Expr} {ta : TA} {p pos tpos : Pos} {elts : List Expr} {kk : Nat} (hg : Gl X "enumerate") (hm : X.mg "enumerate" = none) (ha : PA X [e] ta) (hs : starEach [e] X.env = [(false, eval e X.env)] := by rfl) :
    PI X (.Tuple elts kk tpos) (.Call (.Name "enumerate" p) [e] [] pos) (iEnumT X.K ta) := by
  refine ⟨fun pins s σ H R I h => ?_⟩
  refine Call_ (ld_blt I hg hm boot_enumerate (PyProof.Rows.callWith_type1 (thn (ha.run pos pins s σ H _ I h) fun us s1 ⟨vs, H1, I1, r1, q1⟩ => ?_) hs rfl))
  obtain ⟨a, xs, ex, hq, q⟩ := q1
  subst ex
  cases r1 with
  | cons r rr =>
    cases rr
    cases r
    obtain ⟨its, rv, p', hz⟩ := I1.tuple hq
    have hal : a < s1.heap.objs.size := by
      obtain ⟨o, ho, _⟩ := p'
      exact Heap.lt_size ho
    refine call_enumerate_tuple (show s1.heap.IsTuple a its.toArray from p') fun h' he hit hsz hk => wpAny_pyIter_enum he ?_
    have I2 : L2.Inv X pins σ H1 { s1 with heap := h' } := I1.kept (t' := s1.toks) hk
    refine ⟨s1.heap.objs.size + 1, [s1.heap.objs.size + 1, s1.heap.objs.size], _, _, H1, rfl, I2, turn_enumT a (s1.heap.objs.size + 1) s1.heap.objs.size, ⟨⟨.none, he⟩, hit, Nat.succ_ne_self _, Nat.ne_of_lt hal, Nat.ne_of_lt (Nat.lt_succ_of_lt hal)⟩, fun b hb => ?_, q⟩
    have e' : b = s1.heap.objs.size + 1 ∨ b = s1.heap.objs.size := by simpa using hb
    have hle : s1.heap.objs.size ≤ b := by
      rcases e' with z | z
      · rw [z]; exact Nat.le_add_right _ _
      · rw [z]; exact Nat.le_refl _
    exact I1.fpOk hle (I1.hok.fresh hle)
end Gap
/-! the calculus: what a reading gives, over data -/
namespace My
open PySem PySem.Spec PyProof.Rows L2
open Evl (Ex)

mutual
theorem dp_mono {K : PySem.W.Frag} {G G' : Hp} (e : Ex G G') : ∀ (d : PyData) (v : V), Dp K G v d → Dp K G' v d
  | .none, _, h => by cases h; exact .non
  | .bool _, _, h => by cases h; exact .bl _
  | .int _, _, h => by cases h; exact .int _
  | .str _, _, h => by cases h; exact .str _
  | .list ds, _, h => by
    cases h with
    | lst h1 h2 => exact .lst (Evl.ex_l e h1) (dpa_mono e ds _ h2)
  | .tuple ds, _, h => by
    cases h with
    | tup h1 h2 => exact .tup (Evl.ex_t e h1) (dpa_mono e ds _ h2)
  | .dict _, _, h => by cases h
theorem dpa_mono {K : PySem.W.Frag} {G G' : Hp} (e : Ex G G') : ∀ (ds : List PyData) (vs : List V), DpAll K G vs ds → DpAll K G' vs ds
  | [], _, h => by cases h; exact .nil
  | d :: ds, _, h => by
    cases h with
    | cons h1 h2 => exact .cons (dp_mono e d _ h1) (dpa_mono e ds _ h2)
end
section
variable {K : PySem.W.Frag} {G G2 G3 H H2 H3 : Hp} {v : V} {d : PyData} {vs xs : List V} {ds es : List PyData}
theorem dp_int {i : Int} (h : Dp K G v (.int i)) : v = .int i := by cases h; rfl
theorem dp_bl {b : Bool} (h : Dp K G v (.bool b)) : v = .bl b := by cases h; rfl
theorem dp_non (h : Dp K G v .none) : v = .non := by cases h; rfl
theorem dp_lst (h : Dp K G v (.list ds)) : ∃ a xs, v = .ref a ∧ SqL K G a xs ∧ DpAll K G xs ds := by
  cases h with
  | lst h1 h2 => exact ⟨_, _, rfl, h1, h2⟩
theorem dp_tup (h : Dp K G v (.tuple ds)) : ∃ a xs, v = .ref a ∧ SqT K G a xs ∧ DpAll K G xs ds := by
  cases h with
  | tup h1 h2 => exact ⟨_, _, rfl, h1, h2⟩
theorem dpa_len : ∀ {vs : List V} {ds : List PyData}, DpAll K G vs ds → vs.length = ds.length
  | _, _, .nil => rfl
  | _, _, .cons _ t => by
    simp only [List.length_cons]
    rw [dpa_len t]
theorem dpa_get : ∀ {vs : List V} {ds : List PyData} {i : Nat} {d : PyData}, DpAll K G vs ds → ds[i]? = some d → ∃ v, vs[i]? = some v ∧ Dp K G v d
  | _, _, _, _, .nil, e => by simp at e
  | _, _, 0, _, .cons h _, e => by
    simp at e
    subst e
    exact ⟨_, rfl, h⟩
  | _, _, i + 1, _, .cons _ t, e => by
    obtain ⟨v, h1, h2⟩ := dpa_get (i := i) t (by simpa using e)
    exact ⟨v, by simpa using h1, h2⟩
theorem dpa_append : ∀ {vs ws : List V} {ds es : List PyData}, DpAll K G vs ds → DpAll K G ws es → DpAll K G (vs ++ ws) (ds ++ es)
  | _, _, _, _, .nil, s => s
  | _, _, _, _, .cons h t, s => .cons h (dpa_append t s)
theorem dpa_take : ∀ {vs : List V} {ds : List PyData} (n : Nat), DpAll K G vs ds → DpAll K G (vs.take n) (ds.take n)
  | _, _, 0, _ => by simp; exact .nil
  | _, _, _ + 1, .nil => by simp; exact .nil
  | _, _, n + 1, .cons h t => by simp; exact .cons h (dpa_take n t)
theorem dpa_drop : ∀ {vs : List V} {ds : List PyData} (n : Nat), DpAll K G vs ds → DpAll K G (vs.drop n) (ds.drop n)
  | _, _, 0, r => by simpa using r
  | _, _, _ + 1, .nil => by simp; exact .nil
  | _, _, n + 1, .cons _ t => by simpa using dpa_drop n t
theorem dpa_set : ∀ {vs : List V} {ds : List PyData} (i : Nat), Dp K G v d → DpAll K G vs ds → DpAll K G (vs.set i v) (ds.set i d)
  | _, _, _, _, .nil => by simp; exact .nil
  | _, _, 0, h, .cons _ t => by simp; exact .cons h t
  | _, _, i + 1, h, .cons q t => by simp; exact .cons q (dpa_set i h t)
theorem dpa_erase : ∀ {vs : List V} {ds : List PyData} (i : Nat), DpAll K G vs ds → DpAll K G (vs.eraseIdx i) (ds.eraseIdx i)
  | _, _, _, .nil => by simp; exact .nil
  | _, _, 0, .cons _ t => by simpa using t
  | _, _, i + 1, .cons q t => by simp; exact .cons q (dpa_erase i t)
theorem dpa_ints : ∀ {vs : List V} {ns : List Int}, DpAll K G vs (ns.map .int) → vs = ns.map V.int
  | _, [], h => by
    have h' : DpAll K G _ [] := h
    cases h'
    rfl
  | _, n :: ns, h => by
    have h' : DpAll K G _ (.int n :: ns.map .int) := h
    cases h' with
    | cons h1 h2 =>
      rw [dp_int h1, dpa_ints h2]
      rfl
theorem dpa_bls : ∀ {vs : List V} {ns : List Bool}, DpAll K G vs (ns.map .bool) → vs = ns.map V.bl
  | _, [], h => by
    have h' : DpAll K G _ [] := h
    cases h'
    rfl
  | _, n :: ns, h => by
    have h' : DpAll K G _ (.bool n :: ns.map .bool) := h
    cases h' with
    | cons h1 h2 =>
      rw [dp_bl h1, dpa_bls h2]
      rfl
theorem ints_dpa : ∀ ns : List Int, DpAll K G (ns.map V.int) (ns.map .int)
  | [] => .nil
  | n :: ns => .cons (.int n) (ints_dpa ns)
end

/-- G grows to G2 while H grows to H2; what is new in G2 was not there in H -/
structure Ext (G G2 H H2 : Hp) : Prop where
  ex : Ex G G2
  sub : Ex G2 H2
  on : Ex H H2
  sep : ∀ a, G a = none → H a ≠ none → G2 a = none
section
variable {G G2 G3 H H2 H3 : Hp} {p : Addr} {o : HO}
theorem Ext.refl (h : Ex G H) : Ext G G H H := ⟨Evl.Ex.refl _, h, Evl.Ex.refl _, fun _ h _ => h⟩
theorem Ext.trans (a : Ext G G2 H H2) (b : Ext G2 G3 H2 H3) : Ext G G3 H H3 :=
  ⟨a.ex.trans b.ex, b.sub, a.on.trans b.on, fun c h1 h2 => b.sep c (a.sep c h1 h2) fun e => by
    cases q : H c with
    | none => exact h2 q
    | some u => rw [a.on c u q] at e; cases e⟩
theorem Ext.new (a : Ext G G2 H H2) (h : H2 p = none) : Ext G (upd G2 p o) H (upd H2 p o) := by
  have g2 : G2 p = none := Evl.fresh_back a.sub h
  refine ⟨a.ex.trans (Evl.Ex.new g2), fun c u e => ?_, a.on.trans (Evl.Ex.new h), fun c h1 h2 => ?_⟩
  · by_cases hc : c = p
    · subst hc; rw [upd_same] at e ⊢; exact e
    · rw [upd_ne hc] at e ⊢; exact a.sub c u e
  · have hc : c ≠ p := fun e => by
      subst e
      cases q : H c with
      | none => exact h2 q
      | some u => rw [a.on c u q] at h; cases h
    rw [upd_ne hc]
    exact a.sep c h1 h2
theorem Ext.newH (a : Ext G G2 H H2) (h : H2 p = none) : Ext G G2 H (upd H2 p o) :=
  ⟨a.ex, a.sub.trans (Evl.Ex.new h), a.on.trans (Evl.Ex.new h), a.sep⟩
/-- a new list that is taken among the data -/
theorem Ext.take (a : Ext G G2 H H2) (h : H p = none) (g : G2 p = none) (e : H2 p = some o) : Ext G (upd G2 p o) H H2 := by
  refine ⟨a.ex.trans (Evl.Ex.new g), fun c u q => ?_, a.on, fun c h1 h2 => ?_⟩
  · by_cases hc : c = p
    · subst hc; rw [upd_same] at q; rw [e]; exact q
    · rw [upd_ne hc] at q; exact a.sub c u q
  · rw [upd_ne fun z => by subst z; exact h2 h]
    exact a.sep c h1 h2
theorem Ext.freshG (a : Ext G G2 H H2) (h : H2 p = none) : G2 p = none := Evl.fresh_back a.sub h
theorem Ext.freshH (a : Ext G G2 H H2) (h : H2 p = none) : H p = none := Evl.fresh_back a.on h
end

/-! ### slots -/
inductive SD where
  | no | dat (d : PyData) | lv (ds : List PyData) | cel (u : Addr) (ds : List PyData)
def SD.cell : SD → Bool
  | .lv _ => true
  | .cel _ _ => true
  | _ => false
abbrev Ro := List SD
/-- the urn of draws, n times drawn at most -/
def UrnOk (n : Nat) (ds : List PyData) : Prop := ∃ a b c : Int, ds = [.int a, .int b, .int c] ∧ 0 ≤ b ∧ b < 2 ^ 62 ∧ 0 ≤ c ∧ c ≤ (n : Int)
def SlotOk (K : PySem.W.Frag) (B G H : Hp) (x : Option V) : SD → Prop
  | .no => True
  | .dat d => ∃ v, x = some v ∧ Dp K G v d
  | .lv ds => ∃ l xs, x = some (.ref l) ∧ H l = some (.lst xs) ∧ G l = none ∧ B l = none ∧ DpAll K G xs ds
  | .cel u ds => x = some (.ref u) ∧ (∃ xs, H u = some (.lst xs) ∧ DpAll K G xs ds) ∧ G u = none ∧ B u = none
/-- the slots σ stand for ρ; the data stand in G; what changes stands in neither G nor B -/
structure EnvG (K : PySem.W.Frag) (B G H : Hp) (σ : L2.St) (ρ : Ro) : Prop where
  sub : Ex G H
  len : σ.length = ρ.length
  slot : ∀ (i : Nat) (s : SD), ρ[i]? = some s → ∃ x, σ[i]? = some x ∧ SlotOk K B G H x s
  dis : ∀ (i j : Nat) (s t : SD) (l : Addr), i ≠ j → ρ[i]? = some s → ρ[j]? = some t → s.cell = true → t.cell = true → σ[i]? = some (some (.ref l)) → σ[j]? = some (some (.ref l)) → False
section
variable {K : PySem.W.Frag} {B B' G G2 H H2 : Hp} {σ : L2.St} {ρ : Ro} {i j : Nat} {v : V} {d : PyData} {ds : List PyData} {u : Addr} {n m : Nat}
theorem SlotOk.ext {x : Option V} {s : SD} (h : SlotOk K B G H x s) (e : Ext G G2 H H2) : SlotOk K B G2 H2 x s := by
  cases s with
  | no => trivial
  | dat d => obtain ⟨v, h1, h2⟩ := h; exact ⟨v, h1, dp_mono e.ex _ _ h2⟩
  | lv ds =>
    obtain ⟨l, xs, h1, h2, h3, h4, h5⟩ := h
    exact ⟨l, xs, h1, e.on _ _ h2, e.sep l h3 (by rw [h2]; exact fun z => nomatch z), h4, dpa_mono e.ex _ _ h5⟩
  | cel u n =>
    obtain ⟨h1, ⟨xs, h2, h3⟩, h4, h5⟩ := h
    exact ⟨h1, ⟨xs, e.on _ _ h2, dpa_mono e.ex _ _ h3⟩, e.sep u h4 (by rw [h2]; exact fun z => nomatch z), h5⟩
theorem EnvG.ext (E : EnvG K B G H σ ρ) (e : Ext G G2 H H2) : EnvG K B G2 H2 σ ρ :=
  ⟨e.sub, E.len, fun i s h => let ⟨x, h1, h2⟩ := E.slot i s h; ⟨x, h1, h2.ext e⟩, E.dis⟩
theorem EnvG.lt (E : EnvG K B G H σ ρ) {s : SD} (h : ρ[i]? = some s) : i < σ.length := by
  obtain ⟨h1, _⟩ := List.getElem?_eq_some_iff.mp h
  rw [E.len]; exact h1
theorem EnvG.setD (E : EnvG K B G H σ ρ) (h : Dp K G v d) : EnvG K B G H (σ.set i (some v)) (ρ.set i (.dat d)) := by
  refine ⟨E.sub, by simp [E.len], fun j s hj => ?_, fun j k s t l hjk h1 h2 c1 c2 e1 e2 => ?_⟩
  · by_cases e : i = j
    · subst e
      have hl : i < ρ.length := by
        have := (List.getElem?_eq_some_iff.mp hj).1
        simpa using this
      rw [List.getElem?_set_self hl] at hj
      cases hj
      refine ⟨some v, by rw [List.getElem?_set_self (by rw [E.len]; exact hl)], v, rfl, h⟩
    · rw [List.getElem?_set_ne e] at hj
      obtain ⟨x, h1, h2⟩ := E.slot j s hj
      exact ⟨x, by rw [List.getElem?_set_ne e]; exact h1, h2⟩
  · have nj : i ≠ j := fun e => by
      subst e
      have hl : i < ρ.length := by
        have := (List.getElem?_eq_some_iff.mp h1).1
        simpa using this
      rw [List.getElem?_set_self hl] at h1
      cases h1
      cases c1
    have nk : i ≠ k := fun e => by
      subst e
      have hl : i < ρ.length := by
        have := (List.getElem?_eq_some_iff.mp h2).1
        simpa using this
      rw [List.getElem?_set_self hl] at h2
      cases h2
      cases c2
    rw [List.getElem?_set_ne nj] at h1 e1
    rw [List.getElem?_set_ne nk] at h2 e2
    exact E.dis j k s t l hjk h1 h2 c1 c2 e1 e2
theorem EnvG.setN (E : EnvG K B G H σ ρ) (x : Option V) : EnvG K B G H (σ.set i x) (ρ.set i .no) := by
  refine ⟨E.sub, by simp [E.len], fun j s hj => ?_, fun j k s t l hjk h1 h2 c1 c2 e1 e2 => ?_⟩
  · by_cases e : i = j
    · subst e
      have hl : i < ρ.length := by
        have := (List.getElem?_eq_some_iff.mp hj).1
        simpa using this
      rw [List.getElem?_set_self hl] at hj
      cases hj
      exact ⟨x, by rw [List.getElem?_set_self (by rw [E.len]; exact hl)], trivial⟩
    · rw [List.getElem?_set_ne e] at hj
      obtain ⟨x, h1, h2⟩ := E.slot j s hj
      exact ⟨x, by rw [List.getElem?_set_ne e]; exact h1, h2⟩
  · have nj : i ≠ j := fun e => by
      subst e
      have hl : i < ρ.length := by
        have := (List.getElem?_eq_some_iff.mp h1).1
        simpa using this
      rw [List.getElem?_set_self hl] at h1
      cases h1
      cases c1
    have nk : i ≠ k := fun e => by
      subst e
      have hl : i < ρ.length := by
        have := (List.getElem?_eq_some_iff.mp h2).1
        simpa using this
      rw [List.getElem?_set_self hl] at h2
      cases h2
      cases c2
    rw [List.getElem?_set_ne nj] at h1 e1
    rw [List.getElem?_set_ne nk] at h2 e2
    exact E.dis j k s t l hjk h1 h2 c1 c2 e1 e2
def wipeR (ρ : Ro) : List Nat → Ro
  | [] => ρ
  | v :: vs => (wipeR ρ vs).set v .no
theorem EnvG.wipe (E : EnvG K B G H σ ρ) : ∀ vs : List Nat, EnvG K B G H (L2.wipe σ vs) (wipeR ρ vs)
  | [] => E
  | v :: vs => (EnvG.wipe E vs).setN none
/-- slot i is to hold the list at l, which may change -/
theorem EnvG.setM {l : Addr} {xs : List V} (E : EnvG K B G H σ ρ) (hH : H l = some (.lst xs)) (hG : G l = none) (hB : B l = none) (hd : DpAll K G xs ds)
    (hf : ∀ (j : Nat) (s : SD), j ≠ i → ρ[j]? = some s → s.cell = true → σ[j]? ≠ some (some (.ref l))) : EnvG K B G H (σ.set i (some (.ref l))) (ρ.set i (.lv ds)) := by
  refine ⟨E.sub, by simp [E.len], fun j s hj => ?_, fun j k s t l' hjk h1 h2 c1 c2 e1 e2 => ?_⟩
  · by_cases e : i = j
    · subst e
      have hl : i < ρ.length := by
        have := (List.getElem?_eq_some_iff.mp hj).1
        simpa using this
      rw [List.getElem?_set_self hl] at hj
      cases hj
      exact ⟨some (.ref l), by rw [List.getElem?_set_self (by rw [E.len]; exact hl)], l, xs, rfl, hH, hG, hB, hd⟩
    · rw [List.getElem?_set_ne e] at hj
      obtain ⟨x, h1, h2⟩ := E.slot j s hj
      exact ⟨x, by rw [List.getElem?_set_ne e]; exact h1, h2⟩
  · by_cases hj : i = j
    · subst hj
      have hl : i < ρ.length := by
        have := (List.getElem?_eq_some_iff.mp h1).1
        simpa using this
      rw [List.getElem?_set_self (by rw [E.len]; exact hl)] at e1
      cases e1
      rw [List.getElem?_set_ne hjk] at h2 e2
      exact hf k t hjk.symm h2 c2 e2
    · by_cases hk : i = k
      · subst hk
        have hl : i < ρ.length := by
          have := (List.getElem?_eq_some_iff.mp h2).1
          simpa using this
        rw [List.getElem?_set_self (by rw [E.len]; exact hl)] at e2
        cases e2
        rw [List.getElem?_set_ne hj] at h1 e1
        exact hf j s (fun z => hj z.symm) h1 c1 e1
      · rw [List.getElem?_set_ne hj] at h1 e1
        rw [List.getElem?_set_ne hk] at h2 e2
        exact E.dis j k s t l' hjk h1 h2 c1 c2 e1 e2
/-- the list of slot i changes -/
theorem EnvG.mutate {l : Addr} {xs' : List V} {es : List PyData} (E : EnvG K B G H σ ρ) (hi : ρ[i]? = some (.lv ds)) (hl : σ[i]? = some (some (.ref l))) (hd : DpAll K G xs' es) :
    EnvG K B G (upd H l (.lst xs')) σ (ρ.set i (.lv es)) := by
  obtain ⟨x, hx, l', xs, ex, hH, hG, hB, _⟩ := E.slot i _ hi
  rw [hl] at hx
  cases hx
  cases ex
  have hil : i < ρ.length := (List.getElem?_eq_some_iff.mp hi).1
  refine ⟨fun c u e => ?_, by simp [E.len], fun j s hj => ?_, fun j k s t l' hjk h1 h2 c1 c2 e1 e2 => ?_⟩
  · rw [upd_ne fun z => by subst z; rw [hG] at e; cases e]
    exact E.sub c u e
  · by_cases e : i = j
    · subst e
      rw [List.getElem?_set_self hil] at hj
      cases hj
      exact ⟨_, hl, l, xs', rfl, upd_same, hG, hB, hd⟩
    · rw [List.getElem?_set_ne e] at hj
      obtain ⟨x, h1, h2⟩ := E.slot j s hj
      refine ⟨x, h1, ?_⟩
      cases s with
      | no => trivial
      | dat d => exact h2
      | lv zs =>
        obtain ⟨l2, xs2, q1, q2, q3, q4, q5⟩ := h2
        have ne : l2 ≠ l := fun z => by
          subst z
          subst q1
          exact E.dis i j _ _ l2 e hi hj rfl rfl hl h1
        exact ⟨l2, xs2, q1, by rw [upd_ne ne]; exact q2, q3, q4, q5⟩
      | cel u n =>
        obtain ⟨q1, ⟨xs2, q2, q3⟩, q4, q5⟩ := h2
        have ne : u ≠ l := fun z => by
          subst z
          subst q1
          exact E.dis i j _ _ u e hi hj rfl rfl hl h1
        exact ⟨q1, ⟨xs2, by rw [upd_ne ne]; exact q2, q3⟩, q4, q5⟩
  · have g : ∀ {k : Nat} {t : SD}, (ρ.set i (.lv es))[k]? = some t → t.cell = true → ∃ t', ρ[k]? = some t' ∧ t'.cell = true := fun {k t} q c => by
      by_cases hk : i = k
      · subst hk
        exact ⟨_, hi, rfl⟩
      · rw [List.getElem?_set_ne hk] at q
        exact ⟨t, q, c⟩
    obtain ⟨s', hs, cs⟩ := g h1 c1
    obtain ⟨t', ht, ct⟩ := g h2 c2
    exact E.dis j k s' t' l' hjk hs ht cs ct e1 e2
/-- the list of slot i is to change no more -/
theorem EnvG.freeze (E : EnvG K B G H σ ρ) (hi : ρ[i]? = some (.lv ds)) : ∃ l xs, σ[i]? = some (some (.ref l)) ∧ H l = some (.lst xs) ∧ G l = none ∧ B l = none ∧ EnvG K B (upd G l (.lst xs)) H σ (ρ.set i (.dat (.list ds))) := by
  obtain ⟨x, hx, l, xs, rfl, hH, hG, hB, hd⟩ := E.slot i _ hi
  have hil : i < ρ.length := (List.getElem?_eq_some_iff.mp hi).1
  have ex : Ex G (upd G l (.lst xs)) := Evl.Ex.new hG
  refine ⟨l, xs, hx, hH, hG, hB, fun c u e => ?_, by simp [E.len], fun j s hj => ?_, fun j k s t l' hjk h1 h2 c1 c2 e1 e2 => ?_⟩
  · by_cases hc : c = l
    · subst hc; rw [upd_same] at e; rw [hH]; exact e
    · rw [upd_ne hc] at e; exact E.sub c u e
  · by_cases e : i = j
    · subst e
      rw [List.getElem?_set_self hil] at hj
      cases hj
      exact ⟨_, hx, _, rfl, .lst (.inl (.inl upd_same)) (dpa_mono ex _ _ hd)⟩
    · rw [List.getElem?_set_ne e] at hj
      obtain ⟨x, h1, h2⟩ := E.slot j s hj
      refine ⟨x, h1, ?_⟩
      cases s with
      | no => trivial
      | dat d => obtain ⟨v, q1, q2⟩ := h2; exact ⟨v, q1, dp_mono ex _ _ q2⟩
      | lv zs =>
        obtain ⟨l2, xs2, q1, q2, q3, q4, q5⟩ := h2
        have ne : l2 ≠ l := fun z => by
          subst z
          subst q1
          exact E.dis i j _ _ l2 e hi hj rfl rfl hx h1
        exact ⟨l2, xs2, q1, q2, by rw [upd_ne ne]; exact q3, q4, dpa_mono ex _ _ q5⟩
      | cel u n =>
        obtain ⟨q1, ⟨xs2, q2, q3⟩, q4, q5⟩ := h2
        have ne : u ≠ l := fun z => by
          subst z
          subst q1
          exact E.dis i j _ _ u e hi hj rfl rfl hx h1
        exact ⟨q1, ⟨xs2, q2, dpa_mono ex _ _ q3⟩, by rw [upd_ne ne]; exact q4, q5⟩
  · have nj : i ≠ j := fun e => by
      subst e
      rw [List.getElem?_set_self hil] at h1
      cases h1
      cases c1
    have nk : i ≠ k := fun e => by
      subst e
      rw [List.getElem?_set_self hil] at h2
      cases h2
      cases c2
    rw [List.getElem?_set_ne nj] at h1
    rw [List.getElem?_set_ne nk] at h2
    exact E.dis j k s t l' hjk h1 h2 c1 c2 e1 e2
/-- what stands now, less what may change -/
noncomputable def mask (σ : L2.St) (ρ : Ro) (H : Hp) : Hp := fun a => open Classical in if ∃ (i : Nat) (s : SD), ρ[i]? = some s ∧ s.cell = true ∧ σ[i]? = some (some (.ref a)) then none else H a
theorem mask_none {a : Addr} {s : SD} (h1 : ρ[i]? = some s) (h2 : s.cell = true) (h3 : σ[i]? = some (some (.ref a))) : mask σ ρ H a = none := by
  unfold mask
  rw [if_pos ⟨i, s, h1, h2, h3⟩]
theorem mask_sub : Ex (mask σ ρ H) H := fun a o h => by
  unfold mask at h
  split at h
  · cases h
  · exact h
theorem EnvG.old (E : EnvG K B G H σ ρ) {a : Addr} {o : HO} (hb : B a = some o) (h : H a = some o) : mask σ ρ H a = some o := by
  unfold mask
  rw [if_neg ?_]
  · exact h
  · rintro ⟨i, s, h1, h2, h3⟩
    obtain ⟨x, hx, q⟩ := E.slot i s h1
    rw [h3] at hx
    cases hx
    cases s with
    | no => cases h2
    | dat d => cases h2
    | lv zs =>
      obtain ⟨l2, xs2, q1, q2, q3, q4, q5⟩ := q
      cases q1
      rw [q4] at hb; cases hb
    | cel u n =>
      obtain ⟨q1, q2, q3, q4⟩ := q
      cases q1
      rw [q4] at hb; cases hb
theorem EnvG.rebase (E : EnvG K B G H σ ρ) : EnvG K (mask σ ρ H) G H σ ρ := by
  refine ⟨E.sub, E.len, fun i s hi => ?_, E.dis⟩
  obtain ⟨x, hx, q⟩ := E.slot i s hi
  refine ⟨x, hx, ?_⟩
  cases s with
  | no => trivial
  | dat d => exact q
  | lv zs =>
    obtain ⟨l2, xs2, q1, q2, q3, q4, q5⟩ := q
    subst q1
    exact ⟨l2, xs2, rfl, q2, q3, mask_none hi rfl hx, q5⟩
  | cel u n =>
    obtain ⟨q1, q2, q3, q4⟩ := q
    subst q1
    exact ⟨rfl, q2, q3, mask_none hi rfl hx⟩
/-- .. and behind it -/
theorem Ext.based {G0 H0 G3 H3 : Hp} (E : EnvG K H0 G H σ ρ) (a : Ext G0 G H0 H) (b : Ext G G3 (mask σ ρ H) H3) : Ext G0 G3 H0 H3 := by
  have old : ∀ c o, H0 c = some o → mask σ ρ H c = some o := fun c o q => E.old q (a.on c o q)
  refine ⟨a.ex.trans b.ex, b.sub, fun c o q => b.on c o (old c o q), fun c h1 h2 => b.sep c (a.sep c h1 h2) fun e => ?_⟩
  cases q : H0 c with
  | none => exact h2 q
  | some o => rw [old c o q] at e; cases e
theorem EnvG.selfExt (E : EnvG K B G H σ ρ) : Ext G G (mask σ ρ H) H := ⟨Evl.Ex.refl _, E.sub, mask_sub, fun _ h _ => h⟩
/-- another B -/
theorem EnvG.unbase {B2 : Hp} (E : EnvG K B G H σ ρ) (h : ∀ a, B a = none → B2 a = none) : EnvG K B2 G H σ ρ := by
  refine ⟨E.sub, E.len, fun i s hi => ?_, E.dis⟩
  obtain ⟨x, hx, q⟩ := E.slot i s hi
  refine ⟨x, hx, ?_⟩
  cases s with
  | no => trivial
  | dat d => exact q
  | lv zs =>
    obtain ⟨l2, xs2, q1, q2, q3, q4, q5⟩ := q
    exact ⟨l2, xs2, q1, q2, q3, h _ q4, q5⟩
  | cel u n =>
    obtain ⟨q1, q2, q3, q4⟩ := q
    exact ⟨q1, q2, q3, h _ q4⟩
end
end My
/-! the calculus: expressions -/
namespace My
open PySem PySem.Spec PyProof.Rows L2
open Evl (Ex)
section
variable (K : PySem.W.Frag)
def EvP (te : TE) (ρ : Ro) (P : PyData → Prop) : Prop := ∀ (B G H : Hp) (σ : L2.St) (Q : VK), EnvG K B G H σ ρ → (∀ v d G2 H2, P d → Ext G G2 H H2 → Dp K G2 v d → Q v H2) → te σ H Q
def EvD (te : TE) (ρ : Ro) (d : PyData) : Prop := ∀ (B G H : Hp) (σ : L2.St) (Q : VK), EnvG K B G H σ ρ → (∀ v G2 H2, Ext G G2 H H2 → Dp K G2 v d → Q v H2) → te σ H Q
def EvL (te : TE) (ρ : Ro) (ds : List PyData) : Prop := ∀ (B G H : Hp) (σ : L2.St) (Q : VK), EnvG K B G H σ ρ → (∀ p xs G2 H2, Ext G G2 H H2 → H p = none → G2 p = none → H2 p = some (.lst xs) → DpAll K G2 xs ds → Q (.ref p) H2) → te σ H Q
def EvT (tt : TT) (ρ : Ro) (b : Bool) : Prop := ∀ (B G H : Hp) (σ : L2.St) (Q : Bool → Hp → Prop), EnvG K B G H σ ρ → (∀ G2 H2, Ext G G2 H H2 → Q b H2) → tt σ H Q
def EvA (ta : TA) (ρ : Ro) (ds : List PyData) : Prop := ∀ (B G H : Hp) (σ : L2.St) (Q : List V → Hp → Prop), EnvG K B G H σ ρ → (∀ vs G2 H2, Ext G G2 H H2 → DpAll K G2 vs ds → Q vs H2) → ta σ H Q
def EvO (to : TO) (ρ : Ro) (o : Option Int) : Prop := ∀ (B G H : Hp) (σ : L2.St) (Q : Option Int → Hp → Prop), EnvG K B G H σ ρ → (∀ G2 H2, Ext G G2 H H2 → Q o H2) → to σ H Q
/-- data that an iterator gives, turn by turn -/
structure WalkD (G : Hp) (J : It) (ds : List PyData) : Prop where
  go : ∀ i H, i < ds.length → Ex G H → J.go i H
  stop : ∀ H, Ex G H → J.stop ds.length H
  yld : ∀ i H x H', i < ds.length → Ex G H → J.yld i H x H' → ∃ G' d, Ext G G' H H' ∧ ds[i]? = some d ∧ Dp K G' x d
def EvI (wi : TI) (ρ : Ro) (ds : List PyData) : Prop := ∀ (B G H : Hp) (σ : L2.St) (R : It → Hp → Prop), EnvG K B G H σ ρ → (∀ J G2 H2, Ext G G2 H H2 → WalkD K G2 J ds → R J H2) → wi σ H R
/-- a target takes d -/
def EvG (g : TG) (ρ : Ro) (d : PyData) (ρ' : Ro) (js : List Nat) : Prop := ∀ (B G H : Hp) (σ : L2.St) (x : V) (Q : L2.St → Hp → Prop), EnvG K B G H σ ρ → Dp K G x d →
  (∀ σ', EnvG K B G H σ' ρ' → (∀ vs : List Nat, (∀ j ∈ js, j ∈ vs) → wipe σ' vs = wipe σ vs) → Q σ' H) → g x σ H Q
end
section
variable {K : PySem.W.Frag} {ρ : Ro} {ta tb te : TE} {tt tu : TT} {c d e : PyData} {ds es : List PyData} {i : Nat}
theorem ep_of {P : PyData → Prop} (h : EvD K te ρ d) (p : P d) : EvP K te ρ P := fun B G H σ Q E q => h B G H σ Q E fun v G2 H2 x r => q v d G2 H2 p x r
theorem ep_mono {P P' : PyData → Prop} (h : EvP K te ρ P) (p : ∀ d, P d → P' d) : EvP K te ρ P' := fun B G H σ Q E q => h B G H σ Q E fun v d G2 H2 a x r => q v d G2 H2 (p d a) x r
theorem ed_of {P : PyData → Prop} (h : EvP K te ρ P) (p : ∀ e, P e → e = d) : EvD K te ρ d := fun B G H σ Q E q => h B G H σ Q E fun v e G2 H2 a x r => by
  have z := p e a
  subst z
  exact q v G2 H2 x r
theorem ed_is (h : EvD K te ρ d) (p : d = e) : EvD K te ρ e := p ▸ h
theorem ed_l (h : EvL K te ρ ds) : EvD K te ρ (.list ds) := fun B G H σ Q E q => h B G H σ Q E fun p xs G2 H2 x hp g hl r =>
  q (.ref p) _ H2 (x.take hp g hl) (.lst (.inl (.inl upd_same)) (dpa_mono (Evl.Ex.new g) _ _ r))
theorem el_is (h : EvL K te ρ ds) (p : ds = es) : EvL K te ρ es := p ▸ h
theorem ed_var (h : ρ[i]? = some (.dat d)) : EvD K (tVar i) ρ d := fun B G H σ Q E q => by
  obtain ⟨x, hx, v, rfl, hd⟩ := E.slot i _ h
  exact ⟨v, hx, q v G H (.refl E.sub) hd⟩
theorem ed_int {j : Int} : EvD K (tC (.int j)) ρ (.int j) := fun B G H σ Q E q => q _ G H (.refl E.sub) (.int j)
theorem ed_bl {j : Bool} : EvD K (tC (.bl j)) ρ (.bool j) := fun B G H σ Q E q => q _ G H (.refl E.sub) (.bl j)
theorem ed_non : EvD K (tC .non) ρ .none := fun B G H σ Q E q => q _ G H (.refl E.sub) .non
theorem ea_nil : EvA K tNil ρ [] := fun B G H σ Q E q => q _ G H (.refl E.sub) .nil
theorem ea_cons {tr : TA} (h : EvD K te ρ d) (hr : EvA K tr ρ ds) : EvA K (tCons te tr) ρ (d :: ds) := fun B G H σ Q E q => h B G H σ _ E fun v G2 H2 x r =>
  hr B G2 H2 σ _ (E.ext x) fun vs G3 H3 y s => q _ G3 H3 (x.trans y) (.cons (dp_mono y.ex _ _ r) s)
/-- (*e, ..) -/
theorem ea_star {tr : TA} (h : EvD K te ρ (.tuple es)) (hr : EvA K tr ρ ds) : EvA K (StX.tStar K te tr) ρ (es ++ ds) := fun B G H σ Q E q => h B G H σ _ E fun v G2 H2 x r => by
  obtain ⟨a, xs, rfl, h1, h2⟩ := dp_tup r
  refine ⟨a, xs, rfl, .inl (Evl.ex_t x.sub h1), hr B G2 H2 σ _ (E.ext x) fun vs G3 H3 y s => q _ G3 H3 (x.trans y) (dpa_append (dpa_mono y.ex _ _ h2) s)⟩
theorem sz1000 {n : Nat} (h : n ≤ 1000) : n ≤ sizeLine := Nat.le_of_lt (small1000 h)
theorem ed_tup {tr : TA} (h : EvA K tr ρ ds) (hl : ds.length ≤ 1000) : EvD K (tTup tr) ρ (.tuple ds) := fun B G H σ Q E q => h B G H σ _ E fun vs G2 H2 x r => by
  refine ⟨sz1000 (by rw [dpa_len r]; exact hl), fun p hp => q _ (upd G2 p (.tup vs)) _ (x.new hp) ?_⟩
  exact .tup (.inl (.inl upd_same)) (dpa_mono (Evl.Ex.new (x.freshG hp)) _ _ r)
theorem el_lst {tr : TA} (h : EvA K tr ρ ds) (hl : ds.length ≤ 1000) : EvL K (tLst tr) ρ ds := fun B G H σ Q E q => h B G H σ _ E fun vs G2 H2 x r => by
  refine ⟨sz1000 (by rw [dpa_len r]; exact hl), fun p hp => q p vs G2 _ (x.newH hp) (x.freshH hp) (x.freshG hp) upd_same r⟩
theorem eo_none : EvO K tNoPart ρ none := fun B G H σ Q E q => q G H (.refl E.sub)
theorem eo_some {j : Int} (h : EvD K te ρ (.int j)) : EvO K (tPart te) ρ (some j) := fun B G H σ Q E q => h B G H σ _ E fun v G2 H2 x r => ⟨j, dp_int r, q G2 H2 x⟩
/-- two operands -/
theorem ed_op {r : R2} {P : PyData → Prop} (ha : EvP K ta ρ P) (hb : EvD K tb ρ e) (h : ∀ c, P c → ∀ (G H : Hp) (x y : V) (Q : VK), Ex G H → Dp K G x c → Dp K G y e → (∀ v G2 H2, Ext G G2 H H2 → Dp K G2 v d → Q v H2) → r x y H Q) :
    EvD K (tOp r ta tb) ρ d := fun B G H σ Q E q => ha B G H σ _ E fun v c G2 H2 p x s => hb B G2 H2 σ _ (E.ext x) fun u G3 H3 y t => h c p G3 H3 v u Q y.sub (dp_mono y.ex _ _ s) t fun w G4 H4 z o => q w G4 H4 ((x.trans y).trans z) o
theorem ed_op' {r : R2} (ha : EvD K ta ρ c) (hb : EvD K tb ρ e) (h : ∀ (G H : Hp) (x y : V) (Q : VK), Ex G H → Dp K G x c → Dp K G y e → (∀ v G2 H2, Ext G G2 H H2 → Dp K G2 v d → Q v H2) → r x y H Q) :
    EvD K (tOp r ta tb) ρ d := ed_op (P := fun z => z = c) (ep_of ha rfl) hb fun z p => by subst p; exact h
theorem el_op {r : R2} (ha : EvD K ta ρ c) (hb : EvD K tb ρ e) (h : ∀ (G H : Hp) (x y : V) (Q : VK), Ex G H → Dp K G x c → Dp K G y e → (∀ p xs G2 H2, Ext G G2 H H2 → H p = none → G2 p = none → H2 p = some (.lst xs) → DpAll K G2 xs ds → Q (.ref p) H2) → r x y H Q) :
    EvL K (tOp r ta tb) ρ ds := fun B G H σ Q E q => ha B G H σ _ E fun v G2 H2 x s => hb B G2 H2 σ _ (E.ext x) fun u G3 H3 y t => h G3 H3 v u Q y.sub (dp_mono y.ex _ _ s) t fun p xs G4 H4 z h1 h2 h3 h4 => q p xs G4 H4 ((x.trans y).trans z) ((x.trans y).freshH h1) h2 h3 h4
/-- an int that two ints give -/
theorem ed_ii0 {g : Int → Int → V} {m n : Int} (ha : EvD K ta ρ (.int m)) (hb : EvD K tb ρ (.int n)) (hg : ∀ G, Dp K G (g m n) d) : EvD K (tOp (rI0 g) ta tb) ρ d :=
  ed_op' ha hb fun G H x y Q s h1 h2 q => ⟨m, n, dp_int h1, dp_int h2, q _ G H (.refl s) (hg G)⟩
theorem ed_ii {C : Int → Int → Prop} {g : Int → Int → V} {m n : Int} (ha : EvD K ta ρ (.int m)) (hb : EvD K tb ρ (.int n)) (hc : C m n) (hg : ∀ G, Dp K G (g m n) d) : EvD K (tOp (rI C g) ta tb) ρ d :=
  ed_op' ha hb fun G H x y Q s h1 h2 q => ⟨m, n, dp_int h1, dp_int h2, hc, q _ G H (.refl s) (hg G)⟩
theorem ed_lt {m n : Int} (ha : EvD K ta ρ (.int m)) (hb : EvD K tb ρ (.int n)) : EvD K (tOp (rI0 fun i j => .bl (decide (i < j))) ta tb) ρ (.bool (decide (m < n))) := ed_ii0 ha hb fun _ => .bl _
theorem ed_gt {m n : Int} (ha : EvD K ta ρ (.int m)) (hb : EvD K tb ρ (.int n)) : EvD K (tOp (rI0 fun i j => .bl (decide (j < i))) ta tb) ρ (.bool (decide (n < m))) := ed_ii0 ha hb fun _ => .bl _
theorem ed_ge {m n : Int} (ha : EvD K ta ρ (.int m)) (hb : EvD K tb ρ (.int n)) : EvD K (tOp (rI0 fun i j => .bl (decide (j ≤ i))) ta tb) ρ (.bool (decide (n ≤ m))) := ed_ii0 ha hb fun _ => .bl _
theorem ed_sub {m n : Int} (ha : EvD K ta ρ (.int m)) (hb : EvD K tb ρ (.int n)) : EvD K (tOp (rI0 fun i j => .int (i - j)) ta tb) ρ (.int (m - n)) := ed_ii0 ha hb fun _ => .int _
theorem ed_mul {m n : Int} (ha : EvD K ta ρ (.int m)) (hb : EvD K tb ρ (.int n)) (hc : CMul m n) : EvD K (tOp (rI CMul fun i j => .int (i * j)) ta tb) ρ (.int (m * n)) := ed_ii ha hb hc fun _ => .int _
theorem ed_mod {m n : Int} (ha : EvD K ta ρ (.int m)) (hb : EvD K tb ρ (.int n)) (hc : 0 < n) : EvD K (tOp (rI (fun _ j => 0 < j) fun i j => .int (i % j)) ta tb) ρ (.int (m % n)) := ed_ii ha hb hc fun _ => .int _
theorem ed_fdiv {m n : Int} (ha : EvD K ta ρ (.int m)) (hb : EvD K tb ρ (.int n)) (hc : CDiv m n) : EvD K (tOp (rI CDiv fun i j => .int (i / j)) ta tb) ρ (.int (m / n)) := ed_ii ha hb hc fun _ => .int _
theorem ed_pow {m n : Int} (ha : EvD K ta ρ (.int m)) (hb : EvD K tb ρ (.int n)) (hc : CPow m n) : EvD K (tOp (rI CPow fun i j => .int (i ^ j.toNat)) ta tb) ρ (.int (m ^ n.toNat)) := ed_ii ha hb hc fun _ => .int _
theorem ed_un {g : Int → V} {m : Int} (ha : EvD K ta ρ (.int m)) (hg : ∀ G, Dp K G (g m) d) : EvD K (tUn (rU g) ta) ρ d := fun B G H σ Q E q => ha B G H σ _ E fun v G2 H2 x r => ⟨m, dp_int r, q _ G2 H2 x (hg G2)⟩
theorem ed_neg {m : Int} (ha : EvD K ta ρ (.int m)) : EvD K (tUn (rU fun i => .int (-i)) ta) ρ (.int (-m)) := ed_un ha fun _ => .int _
/-! + of ints, lists, tuples -/
def rAddA (K : PySem.W.Frag) : R2 := fun x y H Q => rI0 (fun i j => .int (i + j)) x y H Q ∨ (Gap.rCatL K x y H Q ∨ rCatA K x y H Q)
theorem op_addA {X : Cx} : OpR X (binaryOp .Add) (rAddA X.K) := op_add.or (Gap.op_catL.or op_catA)
theorem ed_add {m n : Int} (ha : EvD K ta ρ (.int m)) (hb : EvD K tb ρ (.int n)) : EvD K (tOp (rAddA K) ta tb) ρ (.int (m + n)) :=
  ed_op' ha hb fun G H x y Q s h1 h2 q => .inl ⟨m, n, dp_int h1, dp_int h2, q _ G H (.refl s) (.int _)⟩
theorem el_add (ha : EvD K ta ρ (.list ds)) (hb : EvD K tb ρ (.list es)) (hl : ds.length + es.length ≤ 1000) : EvL K (tOp (rAddA K) ta tb) ρ (ds ++ es) :=
  el_op ha hb fun G H x y Q s h1 h2 q => by
    obtain ⟨a, xs, rfl, a1, a2⟩ := dp_lst h1
    obtain ⟨b, ys, rfl, b1, b2⟩ := dp_lst h2
    exact .inr (.inl ⟨a, b, xs, ys, rfl, rfl, Evl.ex_l s a1, Evl.ex_l s b1, sz1000 (by rw [dpa_len a2, dpa_len b2]; exact hl), fun p hp => q p _ G _ ((Ext.refl s).newH hp) hp ((Ext.refl s).freshG hp) upd_same (dpa_append a2 b2)⟩)
theorem ed_addT (ha : EvD K ta ρ (.tuple ds)) (hb : EvD K tb ρ (.tuple es)) (hl : ds.length + es.length ≤ 1000) : EvD K (tOp (rAddA K) ta tb) ρ (.tuple (ds ++ es)) :=
  ed_op' ha hb fun G H x y Q s h1 h2 q => by
    obtain ⟨a, xs, rfl, a1, a2⟩ := dp_tup h1
    obtain ⟨b, ys, rfl, b1, b2⟩ := dp_tup h2
    have l1 := dpa_len a2
    have l2 := dpa_len b2
    refine .inr (.inr ⟨a, b, xs, ys, rfl, rfl, Evl.ex_t s a1, Evl.ex_t s b1, sz1000 (by omega), fun e => ?_, fun _ e => ?_, fun _ _ p hp => ?_⟩)
    · subst e
      cases a2
      exact q _ G H (.refl s) (.tup b1 b2)
    · subst e
      cases b2
      rw [List.append_nil] at q
      exact q _ G H (.refl s) (.tup a1 a2)
    · exact q _ _ _ ((Ext.refl s).new hp) (.tup (.inl (.inl upd_same)) (dpa_mono (Evl.Ex.new ((Ext.refl s).freshG hp)) _ _ (dpa_append a2 b2)))
/-! items, slices -/
theorem atI_of {α β : Type} {xs : List α} {ys : List β} (hl : xs.length = ys.length) {k : Int} {j : Nat} (h : ixN ys.length k = some j) : ixN xs.length k = some j := by rw [hl]; exact h
theorem ed_ixN {k : Int} {j : Nat} (ha : EvD K ta ρ c) (hc : c = .tuple ds ∨ c = .list ds) (hb : EvD K tb ρ (.int k)) (hk : ixN ds.length k = some j) (hd : ds[j]? = some d) : EvD K (tOp (rIx K) ta tb) ρ d :=
  ed_op' ha hb fun G H x y Q s h1 h2 q => by
    rcases hc with rfl | rfl
    · obtain ⟨a, xs, rfl, a1, a2⟩ := dp_tup h1
      obtain ⟨v, h3, h4⟩ := dpa_get a2 hd
      refine .inr (.inl ⟨a, xs, k, v, rfl, dp_int h2, Evl.ex_t s a1, ?_, q v G H (.refl s) h4⟩)
      unfold atI
      rw [atI_of (dpa_len a2) hk]
      exact h3
    · obtain ⟨a, xs, rfl, a1, a2⟩ := dp_lst h1
      obtain ⟨v, h3, h4⟩ := dpa_get a2 hd
      refine .inl ⟨a, xs, k, v, rfl, dp_int h2, Evl.ex_l s a1, ?_, q v G H (.refl s) h4⟩
      unfold atI
      rw [atI_of (dpa_len a2) hk]
      exact h3
theorem ed_ix {j : Nat} (ha : EvD K ta ρ (.tuple ds)) (hb : EvD K tb ρ (.int (j : Int))) (hd : ds[j]? = some d) : EvD K (tOp (rIx K) ta tb) ρ d :=
  ed_ixN ha (.inl rfl) hb (Evl.ixN_nat (List.getElem?_eq_some_iff.mp hd).1) hd
theorem ed_ixL {j : Nat} (ha : EvD K ta ρ (.list ds)) (hb : EvD K tb ρ (.int (j : Int))) (hd : ds[j]? = some d) : EvD K (tOp (rIx K) ta tb) ρ d :=
  ed_ixN ha (.inr rfl) hb (Evl.ixN_nat (List.getElem?_eq_some_iff.mp hd).1) hd
theorem ixN_last {n : Nat} (h : 0 < n) : ixN n (-1) = some (n - 1) := by
  unfold ixN
  rw [if_neg (by omega), if_pos (by omega)]
  congr 1
  omega
theorem ed_last (ha : EvD K ta ρ (.tuple (ds ++ [d]))) (hb : EvD K tb ρ (.int (-1))) : EvD K (tOp (rIx K) ta tb) ρ d :=
  ed_ixN ha (.inl rfl) hb (j := ds.length) (by rw [ixN_last (by simp)]; simp) (by simp)
def rSlS (K : PySem.W.Frag) : V → Option Int → Option Int → Hp → VK → Prop := fun x lo hi H Q => rSlL K x lo hi H Q ∨ rSlA K x lo hi H Q
theorem sl_any {X : Cx} : SlR X (rSlS X.K) := SlR.or sl_list sl_tupA
def cutD (xs : List PyData) (lo hi : Option Int) : List PyData := (xs.drop (HT.sIx xs.length 0 lo)).take (HT.sIx xs.length xs.length hi - HT.sIx xs.length 0 lo)
theorem cut_dpa {G : Hp} {xs : List V} (h : DpAll K G xs ds) (lo hi : Option Int) : DpAll K G (cutV xs lo hi) (cutD ds lo hi) := by
  unfold cutV cutD
  rw [dpa_len h]
  exact dpa_take _ (dpa_drop _ h)
theorem cutD_all {lo hi : Option Int} (h : HT.sIx ds.length 0 lo = 0 ∧ HT.sIx ds.length ds.length hi = ds.length) : cutD ds lo hi = ds := by
  unfold cutD
  rw [h.1, h.2]
  simp
theorem el_sl {tl th : TO} {lo hi : Option Int} (ha : EvD K te ρ (.list ds)) (h1 : EvO K tl ρ lo) (h2 : EvO K th ρ hi) : EvL K (tSl (rSlS K) te tl th) ρ (cutD ds lo hi) := fun B G H σ Q E q =>
  ha B G H σ _ E fun v G2 H2 x r => h1 B G2 H2 σ _ (E.ext x) fun G3 H3 y => h2 B G3 H3 σ _ ((E.ext x).ext y) fun G4 H4 z => by
    obtain ⟨a, xs, rfl, a1, a2⟩ := dp_lst r
    have w := (x.trans y).trans z
    refine .inl ⟨a, xs, rfl, Evl.ex_l (z.sub) (Evl.ex_l z.ex (Evl.ex_l y.ex a1)), fun p hp => q p _ G4 _ (w.newH hp) (w.freshH hp) (w.freshG hp) upd_same (cut_dpa (dpa_mono z.ex _ _ (dpa_mono y.ex _ _ a2)) lo hi)⟩
theorem ed_slT {tl th : TO} {lo hi : Option Int} (ha : EvD K te ρ (.tuple ds)) (h1 : EvO K tl ρ lo) (h2 : EvO K th ρ hi) : EvD K (tSl (rSlS K) te tl th) ρ (.tuple (cutD ds lo hi)) := fun B G H σ Q E q =>
  ha B G H σ _ E fun v G2 H2 x r => h1 B G2 H2 σ _ (E.ext x) fun G3 H3 y => h2 B G3 H3 σ _ ((E.ext x).ext y) fun G4 H4 z => by
    obtain ⟨a, xs, rfl, a1, a2⟩ := dp_tup r
    have w := (x.trans y).trans z
    have b1 := Evl.ex_t z.ex (Evl.ex_t y.ex a1)
    have b2 := dpa_mono z.ex _ _ (dpa_mono y.ex _ _ a2)
    have hl := dpa_len a2
    refine .inr ⟨a, xs, rfl, Evl.ex_t z.sub b1, fun hw => ?_, fun hw p hp => ?_⟩
    · rw [hl] at hw
      rw [cutD_all hw] at q
      exact q _ G4 H4 w (.tup b1 b2)
    · exact q _ _ _ (w.new hp) (.tup (.inl (.inl upd_same)) (dpa_mono (Evl.Ex.new (w.freshG hp)) _ _ (cut_dpa b2 lo hi)))
/-! comparisons -/
theorem ed_eq {b : Bool} (ha : EvD K ta ρ c) (hb : EvD K tb ρ e) (sc : SeqAt.shaped c = true) (se : SeqAt.shaped e = true) (h : PyData.eqv c e = b) : EvD K (tOp (rEqD K) ta tb) ρ (.bool b) :=
  ed_op' ha hb fun G H x y Q s h1 h2 q => ⟨c, e, dp_mono s _ _ h1, dp_mono s _ _ h2, sc, se, by rw [h]; exact q _ G H (.refl s) (.bl b)⟩
theorem ed_ne {b : Bool} (ha : EvD K ta ρ c) (hb : EvD K tb ρ e) (sc : SeqAt.shaped c = true) (se : SeqAt.shaped e = true) (h : (!PyData.eqv c e) = b) : EvD K (tOp (rNeD K) ta tb) ρ (.bool b) :=
  ed_op' ha hb fun G H x y Q s h1 h2 q => ⟨c, e, dp_mono s _ _ h1, dp_mono s _ _ h2, sc, se, by rw [h]; exact q _ G H (.refl s) (.bl b)⟩
theorem shaped_int (m : Int) : SeqAt.shaped (.int m) = true := by simp [SeqAt.shaped, PyData.canLay0, PyData.depth]
theorem ed_eqI {m n : Int} (ha : EvD K ta ρ (.int m)) (hb : EvD K tb ρ (.int n)) : EvD K (tOp (rEqD K) ta tb) ρ (.bool (decide (m = n))) :=
  ed_eq ha hb (shaped_int m) (shaped_int n) (by rw [PyData.eqv]; by_cases h : m = n <;> simp [h])
theorem ed_neI {m n : Int} (ha : EvD K ta ρ (.int m)) (hb : EvD K tb ρ (.int n)) : EvD K (tOp (rNeD K) ta tb) ρ (.bool (!decide (m = n))) :=
  ed_ne ha hb (shaped_int m) (shaped_int n) (by rw [PyData.eqv]; by_cases h : m = n <;> simp [h])
theorem ed_in {P : PyData → Prop} {b : Bool} (ha : EvP K ta ρ P) (hb : EvD K tb ρ e) (he : e = .list ds ∨ e = .tuple ds) (se : SeqAt.shaped e = true) (h : ∀ c, P c → SeqAt.shaped c = true ∧ (ds.any fun z => PyData.eqv z c) = b) : EvD K (tOp (Gap.rInS K false) ta tb) ρ (.bool b) :=
  ed_op ha hb fun c p G H x y Q s h1 h2 q => ⟨c, ds, e, dp_mono s _ _ h1, dp_mono s _ _ h2, he, (h c p).1, se, by
    show Q (.bl (ds.any fun z => PyData.eqv z c)) H
    rw [(h c p).2]; exact q _ G H (.refl s) (.bl b)⟩
theorem ed_notIn {P : PyData → Prop} {b : Bool} (ha : EvP K ta ρ P) (hb : EvD K tb ρ e) (he : e = .list ds ∨ e = .tuple ds) (se : SeqAt.shaped e = true) (h : ∀ c, P c → SeqAt.shaped c = true ∧ (!ds.any fun z => PyData.eqv z c) = b) : EvD K (tOp (Gap.rInS K true) ta tb) ρ (.bool b) :=
  ed_op ha hb fun c p G H x y Q s h1 h2 q => ⟨c, ds, e, dp_mono s _ _ h1, dp_mono s _ _ h2, he, (h c p).1, se, by
    show Q (.bl (!ds.any fun z => PyData.eqv z c)) H
    rw [(h c p).2]; exact q _ G H (.refl s) (.bl b)⟩
def isNo : PyData → Bool
  | .none => true
  | _ => false
theorem isNo_of {G : Hp} {v : V} (h : Dp K G v d) : decide (v = .non) = isNo d := by
  cases h <;> rfl
def rIsN : R2 := fun x y H Q => y = .non ∧ Q (.bl (decide (x = .non))) H
def rNotN : R2 := fun x y H Q => y = .non ∧ Q (.bl (!decide (x = .non))) H
theorem op_isN' {X : Cx} : OpR X (compareOp .Is) rIsN := op_isN
theorem op_notN' {X : Cx} : OpR X (compareOp .IsNot) rNotN := op_notN
theorem ed_isN (ha : EvD K ta ρ c) : EvD K (tOp rIsN ta (tC .non)) ρ (.bool (isNo c)) :=
  ed_op' ha ed_non fun G H x y Q s h1 h2 q => ⟨dp_non h2, by rw [isNo_of h1]; exact q _ G H (.refl s) (.bl _)⟩
theorem ed_notN (ha : EvD K ta ρ c) : EvD K (tOp rNotN ta (tC .non)) ρ (.bool (!isNo c)) :=
  ed_op' ha ed_non fun G H x y Q s h1 h2 q => ⟨dp_non h2, by rw [isNo_of h1]; exact q _ G H (.refl s) (.bl _)⟩
/-! truth -/
theorem et_val {b : Bool} (h : EvD K te ρ (.bool b)) : EvT K (tB te) ρ b := fun B G H σ Q E q => h B G H σ _ E fun v G2 H2 x r => ⟨b, dp_bl r, q G2 H2 x⟩
theorem et_cmp {b : Bool} (h : EvD K te ρ (.bool b)) : EvT K (tTest te) ρ b := fun B G H σ Q E q => h B G H σ _ E fun v G2 H2 x r => ⟨b, dp_bl r, q G2 H2 x⟩
theorem et_not {b : Bool} (h : EvT K tt ρ b) : EvT K (tNot tt) ρ (!b) := fun B G H σ Q E q => h B G H σ _ E fun G2 H2 x => q G2 H2 x
theorem et_and {a b : Bool} (h : EvT K tt ρ a) (h2 : a = true → EvT K tu ρ b) : EvT K (tAnd tt tu) ρ (a && b) := fun B G H σ Q E q => h B G H σ _ E fun G2 H2 x => by
  cases a with
  | true => exact h2 rfl B G2 H2 σ Q (E.ext x) fun G3 H3 y => q G3 H3 (x.trans y)
  | false => exact q G2 H2 x
theorem et_or {a b : Bool} (h : EvT K tt ρ a) (h2 : a = false → EvT K tu ρ b) : EvT K (tOr tt tu) ρ (a || b) := fun B G H σ Q E q => h B G H σ _ E fun G2 H2 x => by
  cases a with
  | false => exact h2 rfl B G2 H2 σ Q (E.ext x) fun G3 H3 y => q G3 H3 (x.trans y)
  | true => exact q G2 H2 x
theorem et_is {a b : Bool} (h : EvT K tt ρ a) (p : a = b) : EvT K tt ρ b := p ▸ h
theorem et_yes : EvT K tYes ρ true := fun B G H σ Q E q => q G H (.refl E.sub)
theorem ed_and {a : Bool} {b : Bool} (h : EvD K ta ρ (.bool a)) (h2 : a = true → EvD K tb ρ (.bool b)) : EvD K (tAndV ta tb) ρ (.bool (a && b)) := fun B G H σ Q E q => h B G H σ _ E fun v G2 H2 x r => ⟨a, dp_bl r, by
  cases a with
  | true => exact h2 rfl B G2 H2 σ Q (E.ext x) fun w G3 H3 y s => q w G3 H3 (x.trans y) s
  | false => exact q _ G2 H2 x (.bl false)⟩
theorem ed_or {a : Bool} {b : Bool} (h : EvD K ta ρ (.bool a)) (h2 : a = false → EvD K tb ρ (.bool b)) : EvD K (tOrV ta tb) ρ (.bool (a || b)) := fun B G H σ Q E q => h B G H σ _ E fun v G2 H2 x r => ⟨a, dp_bl r, by
  cases a with
  | false => exact h2 rfl B G2 H2 σ Q (E.ext x) fun w G3 H3 y s => q w G3 H3 (x.trans y) s
  | true => exact q _ G2 H2 x (.bl true)⟩
theorem ed_not {a : Bool} (h : EvD K ta ρ (.bool a)) : EvD K (tNotV ta) ρ (.bool (!a)) := fun B G H σ Q E q => h B G H σ _ E fun v G2 H2 x r => ⟨a, dp_bl r, q _ G2 H2 x (.bl _)⟩
theorem ed_if {b : Bool} (h : EvT K tt ρ b) (h1 : b = true → EvD K ta ρ d) (h2 : b = false → EvD K tb ρ d) : EvD K (tIf tt ta tb) ρ d := fun B G H σ Q E q => h B G H σ _ E fun G2 H2 x => by
  cases b with
  | true => exact h1 rfl B G2 H2 σ Q (E.ext x) fun w G3 H3 y s => q w G3 H3 (x.trans y) s
  | false => exact h2 rfl B G2 H2 σ Q (E.ext x) fun w G3 H3 y s => q w G3 H3 (x.trans y) s
/-! built-ins -/
def rLenQ (K : PySem.W.Frag) : List V → Hp → VK → Prop := fun xs H Q => ∃ p ys, xs = [.ref p] ∧ (SqL K H p ys ∨ SqT K H p ys) ∧ Q (.int ys.length) H
theorem call_lenQ {X : Cx} : CallR X (.builtin "len") (rLenQ X.K) := call_len_seq
theorem ed_len (ha : EvD K ta ρ c) (hc : c = .tuple ds ∨ c = .list ds) : EvD K (tCB (rLenQ K) (tCons ta tNil)) ρ (.int (ds.length : Int)) := fun B G H σ Q E q => ha B G H σ _ E fun v G2 H2 x r => by
  rcases hc with rfl | rfl
  · obtain ⟨a, xs, rfl, a1, a2⟩ := dp_tup r
    exact ⟨a, xs, rfl, .inr (Evl.ex_t x.sub a1), q _ G2 H2 x (by rw [dpa_len a2]; exact .int _)⟩
  · obtain ⟨a, xs, rfl, a1, a2⟩ := dp_lst r
    exact ⟨a, xs, rfl, .inl (Evl.ex_l x.sub a1), q _ G2 H2 x (by rw [dpa_len a2]; exact .int _)⟩
theorem ed_lenM (h : ρ[i]? = some (.lv ds)) : EvD K (tCB (rLenQ K) (tCons (tVar i) tNil)) ρ (.int (ds.length : Int)) := fun B G H σ Q E q => by
  obtain ⟨x, hx, l, xs, rfl, hH, hG, hB, hd⟩ := E.slot i _ h
  exact ⟨.ref l, hx, l, xs, rfl, .inl (.inl (.inl hH)), q _ G H (.refl E.sub) (by rw [dpa_len hd]; exact .int _)⟩
def rTupQ (K : PySem.W.Frag) : List V → Hp → VK → Prop := fun xs H Q => ∃ p ys, xs = [.ref p] ∧ ((SqL K H p ys ∧ ∀ l, H l = none → Q (.ref l) (upd H l (.tup ys))) ∨ (SqT K H p ys ∧ Q (.ref p) H))
theorem call_tupQ {X : Cx} : CallR X (.type "tuple") (rTupQ X.K) := call_tuple_of
theorem ed_tuple (ha : EvD K ta ρ c) (hc : c = .tuple ds ∨ c = .list ds) : EvD K (tCB (rTupQ K) (tCons ta tNil)) ρ (.tuple ds) := fun B G H σ Q E q => ha B G H σ _ E fun v G2 H2 x r => by
  rcases hc with rfl | rfl
  · obtain ⟨a, xs, rfl, a1, a2⟩ := dp_tup r
    exact ⟨a, xs, rfl, .inr ⟨Evl.ex_t x.sub a1, q _ G2 H2 x (.tup a1 a2)⟩⟩
  · obtain ⟨a, xs, rfl, a1, a2⟩ := dp_lst r
    exact ⟨a, xs, rfl, .inl ⟨Evl.ex_l x.sub a1, fun p hp => q _ _ _ (x.new hp) (.tup (.inl (.inl upd_same)) (dpa_mono (Evl.Ex.new (x.freshG hp)) _ _ a2))⟩⟩
theorem ed_tupleL (ha : EvL K ta ρ ds) : EvD K (tCB (rTupQ K) (tCons ta tNil)) ρ (.tuple ds) := ed_tuple (ed_l ha) (.inr rfl)
def rLstQ (K : PySem.W.Frag) : List V → Hp → VK → Prop := fun xs H Q => ∃ p ys, xs = [.ref p] ∧ (SqL K H p ys ∨ SqT K H p ys) ∧ ∀ l, H l = none → Q (.ref l) (upd H l (.lst ys))
theorem call_lstQ {X : Cx} : CallR X (.type "list") (rLstQ X.K) := call_list_of
theorem el_list (ha : EvD K ta ρ c) (hc : c = .tuple ds ∨ c = .list ds) : EvL K (tCB (rLstQ K) (tCons ta tNil)) ρ ds := fun B G H σ Q E q => ha B G H σ _ E fun v G2 H2 x r => by
  rcases hc with rfl | rfl
  · obtain ⟨a, xs, rfl, a1, a2⟩ := dp_tup r
    exact ⟨a, xs, rfl, .inr (Evl.ex_t x.sub a1), fun p hp => q p xs G2 _ (x.newH hp) (x.freshH hp) (x.freshG hp) upd_same a2⟩
  · obtain ⟨a, xs, rfl, a1, a2⟩ := dp_lst r
    exact ⟨a, xs, rfl, .inl (Evl.ex_l x.sub a1), fun p hp => q p xs G2 _ (x.newH hp) (x.freshH hp) (x.freshG hp) upd_same a2⟩
theorem rg_dpa {G : Hp} (n : Nat) : DpAll K G (rgV 0 (n : Int)) ((List.range n).map fun (j : Nat) => PyData.int (j : Int)) := by
  unfold rgV
  have e : ((n : Int) - 0).toNat = n := by omega
  rw [e]
  have z : ∀ l : List Nat, DpAll K G (l.map fun (i : Nat) => V.int (0 + (i : Int))) (l.map fun (j : Nat) => PyData.int (j : Int)) := fun l => by
    induction l with
    | nil => exact .nil
    | cons a r ih => exact .cons (by
        show Dp K G (.int (0 + (a : Int))) (.int (a : Int))
        rw [Int.zero_add]
        exact .int _) ih
  exact z _
theorem el_listRg {n : Nat} (ha : EvD K ta ρ (.int (n : Int))) (hn : n ≤ 1000) : EvL K (tLstRg (tRg1 ta)) ρ ((List.range n).map fun (j : Nat) => PyData.int (j : Int)) := fun B G H σ Q E q => ha B G H σ _ E fun v G2 H2 x r =>
  ⟨n, dp_int r, RgOk.of_le (by omega) (by omega) (by omega) (by omega), fun p hp => q p _ G2 _ (x.newH hp) (x.freshH hp) (x.freshG hp) upd_same (rg_dpa n)⟩
theorem el_sorted {β : Type} (enc : β → PyData) {bs : List β} (ha : EvD K ta ρ c) (hc : c = .tuple (bs.map enc) ∨ c = .list (bs.map enc)) (hal : PySem.W.AllAlike (bs.map enc)) (hk : PySem.W.Sortable (bs.map enc)) (hde : ∀ b, b ∈ bs → (enc b).depth ≤ 60) :
    EvL K (tCB (Gap.rSortS K enc) (tCons ta tNil)) ρ ((bs.mergeSort (PySem.W.dataLe false enc)).map enc) := fun B G H σ Q E q => ha B G H σ _ E fun v G2 H2 x r => by
  rcases hc with rfl | rfl
  · obtain ⟨a, xs, rfl, a1, a2⟩ := dp_tup r
    exact ⟨a, xs, bs, G2, rfl, .inr (Evl.ex_t x.sub a1), fun _ _ => dp_mono x.sub _ _, a2, hal, hk, hde, fun ys p hp h => q p ys G2 _ (x.newH hp) (x.freshH hp) (x.freshG hp) upd_same h⟩
  · obtain ⟨a, xs, rfl, a1, a2⟩ := dp_lst r
    exact ⟨a, xs, bs, G2, rfl, .inl (Evl.ex_l x.sub a1), fun _ _ => dp_mono x.sub _ _, a2, hal, hk, hde, fun ys p hp h => q p ys G2 _ (x.newH hp) (x.freshH hp) (x.freshG hp) upd_same h⟩
end
end My
/-! the calculus: isinstance, walks, comprehensions, calls -/
namespace My
open PySem PySem.Spec PyProof.Rows L2
open Evl (Ex)
section
variable {K : PySem.W.Frag} {ρ : Ro} {ta tb te : TE} {tt tu : TT} {c d e : PyData} {ds es : List PyData} {i : Nat}
def tyD : PyData → String
  | .none => "NoneType"
  | .bool _ => "bool"
  | .int _ => "int"
  | .str _ => "str"
  | .list _ => "list"
  | .tuple _ => "tuple"
  | .dict _ => "dict"
theorem tyX_of {G H : Hp} {v : V} (h : Dp K G v d) (e : Ex G H) : TyX K H v (.type (tyD d)) := by
  cases h with
  | non => exact .base .non
  | bl b => exact .base (.bl b)
  | int i => exact .base (.int i)
  | str x => exact .base (.str x)
  | lst h1 h2 =>
    rcases h1 with (h1 | ⟨o, h1⟩) | ⟨o, its, n, h1, h3, _⟩
    · exact .base (.lst (e _ _ h1))
    · exact .base (.frz (e _ _ h1))
    · exact .kList h1 h3
  | tup h1 h2 =>
    rcases h1 with (h1 | ⟨o, h1⟩) | ⟨o, its, n, h1, h3, _⟩
    · exact .base (.tup (e _ _ h1))
    · exact .fTuple (e _ _ h1)
    · exact .kTuple h1 h3
theorem ed_isi {s T : String} {b : Bool} (ha : EvD K ta ρ c) (hs : tyD c = s) (h : kitB s T = some b) : EvD K (tCB (rIsi K) (tCons ta (tCons (tC (.ty T)) tNil))) ρ (.bool b) := by
  subst hs
  exact fun B G H σ Q E q => ha B G H σ _ E fun v G2 H2 x r =>
  ⟨v, .ty T, .type (tyD c), .type T, b, rfl, .ty T, tyX_of r x.sub, kit_ty h, q _ G2 H2 x (.bl b)⟩
theorem ed_isiT {s T U : String} {b b2 : Bool} (ha : EvD K ta ρ c) (hs : tyD c = s) (h : kitB s T = some b) (h2 : kitB s U = some b2) : EvD K (tCB (rIsiT K) (tCons ta (tCons (tTup (tCons (tC (.ty T)) (tCons (tC (.ty U)) tNil))) tNil))) ρ (.bool (b || b2)) := fun B G H σ Q E q => ha B G H σ _ E fun v G2 H2 x r => by
  subst hs
  refine ⟨(by show 2 ≤ sizeLine; decide), fun p hp => ?_⟩
  have y := x.newH (o := .tup [.ty T, .ty U]) hp
  refine ⟨v, p, [.ty T, .ty U], .type (tyD c), [.type T, .type U], b || b2, rfl, upd_same, .cons (.ty T) (.cons (.ty U) .nil), tyX_of r y.sub, ?_, q _ G2 _ y (.bl _)⟩
  refine kitAny_cons (kit_ty h) (fun e => ?_) (fun e => by rw [e]; rfl)
  refine kitAny_cons (kit_ty h2) (fun e2 => ?_) (fun e2 => by rw [e2]; simp)
  rw [e, e2]
  rfl
def rAbs : List V → Hp → VK → Prop := fun xs H Q => ∃ i, xs = [.int i] ∧ Q (.int (if i < 0 then -i else i)) H
theorem call_abs' {X : Cx} : CallR X (.builtin "abs") rAbs := call_abs
theorem ed_abs {m : Int} (ha : EvD K ta ρ (.int m)) : EvD K (tCB rAbs (tCons ta tNil)) ρ (.int (if m < 0 then -m else m)) := fun B G H σ Q E q => ha B G H σ _ E fun v G2 H2 x r => ⟨m, by rw [dp_int r], q _ G2 H2 x (.int _)⟩
def rInt1 : List V → Hp → VK → Prop := fun xs H Q => (∃ i, xs = [.int i] ∧ Q (.int i) H) ∨ ∃ k, xs = [.bl k] ∧ Q (.int (if k then 1 else 0)) H
theorem call_int' {X : Cx} : CallR X (.type "int") rInt1 := call_int1
theorem ed_int1 {m : Int} (ha : EvD K ta ρ (.int m)) : EvD K (tCB rInt1 (tCons ta tNil)) ρ (.int m) := fun B G H σ Q E q => ha B G H σ _ E fun v G2 H2 x r => .inl ⟨m, by rw [dp_int r], q _ G2 H2 x (.int _)⟩
theorem ed_int1b {b : Bool} (ha : EvD K ta ρ (.bool b)) : EvD K (tCB rInt1 (tCons ta tNil)) ρ (.int (if b then 1 else 0)) := fun B G H σ Q E q => ha B G H σ _ E fun v G2 H2 x r => .inr ⟨b, by rw [dp_bl r], q _ G2 H2 x (.int _)⟩
theorem ed_all {bs : List Bool} (ha : EvD K ta ρ (.list (bs.map .bool))) : EvD K (tCB (rAll K) (tCons ta tNil)) ρ (.bool (bs.all id)) := fun B G H σ Q E q => ha B G H σ _ E fun v G2 H2 x r => by
  obtain ⟨a, xs, rfl, a1, a2⟩ := dp_lst r
  have e := dpa_bls a2
  subst e
  exact ⟨a, bs, rfl, Evl.ex_l x.sub a1, q _ G2 H2 x (.bl _)⟩
/-- x or y, by truth: a list -/
theorem el_orL {a b : List PyData} (ha : EvL K ta ρ a) (hb : EvL K tb ρ b) : EvL K (tOrT K ta tb) ρ (if a = [] then b else a) := fun B G H σ Q E q => ha B G H σ _ E fun p xs G2 H2 x h1 h2 h3 h4 => by
  have hl := dpa_len h4
  refine ⟨!xs.isEmpty, .inl ⟨xs, .inl (.inl h3), rfl⟩, ?_⟩
  cases a with
  | nil =>
    have e : xs = [] := List.eq_nil_of_length_eq_zero (by simpa using hl)
    subst e
    exact hb B G2 H2 σ _ (E.ext x) fun p' xs' G3 H3 y g1 g2 g3 g4 => q p' xs' G3 H3 (x.trans y) (x.freshH g1) g2 g3 g4
  | cons c r =>
    cases xs with
    | nil => simp at hl
    | cons z zs => exact q p _ G2 H2 x h1 h2 h3 h4

/-! ### walks -/
theorem Ext.widen {G G3 G' H H' : Hp} (a : Ex G G3) (b : Ex G3 H) (x : Ext G G' H H') : ∃ G'', Ext G3 G'' H H' ∧ Ex G' G'' := by
  refine ⟨fun c => match G3 c with | some o => some o | none => G' c, ⟨fun c o q => by simp only [q], fun c o q => ?_, x.on, fun c h1 h2 => ?_⟩, fun c o q => ?_⟩
  · cases z : G3 c with
    | some u =>
      simp only [z] at q
      cases q
      exact x.on _ _ (b _ _ z)
    | none =>
      simp only [z] at q
      exact x.sub _ _ q
  · simp only [h1]
    refine x.sep c ?_ h2
    cases z : G c with
    | none => rfl
    | some u => rw [a _ _ z] at h1; cases h1
  · show (match G3 c with | some o => some o | none => G' c) = some o
    cases z : G3 c with
    | none => exact q
    | some u =>
      show some u = some o
      cases y : G c with
      | none => rw [x.sep c y (by rw [b _ _ z]; exact fun n => nomatch n)] at q; cases q
      | some w =>
        have e1 := x.ex _ _ y
        have e2 := a _ _ y
        rw [q] at e1
        rw [z] at e2
        rw [e1, e2]
def iSeq (K : PySem.W.Frag) (tl : TE) : TI := fun σ H R => iList K tl σ H R ∨ iTup K tl σ H R
theorem pi_seq {X : Cx} {tg l : Expr} {tl : TE} (h : PE X l tl) : PI X tg l (iSeq X.K tl) := ⟨fun pins s σ H R I q => by
  rcases q with q | q
  · exact (pi_list h).run pins s σ H R I q
  · exact (pi_tup h).run pins s σ H R I q⟩
theorem ei_list (h : EvD K ta ρ (.list ds)) : EvI K (iSeq K ta) ρ ds := fun B G H σ R E q => .inl <| h B G H σ _ E fun v G2 H2 x r => by
  obtain ⟨a, xs, rfl, a1, a2⟩ := dp_lst r
  have hl := dpa_len a2
  refine ⟨a, rfl, ⟨xs, Evl.ex_l x.sub a1⟩, q _ G2 H2 x ⟨fun i H hi e => ?_, fun H e => ⟨xs, Evl.ex_l e a1, by omega⟩, fun i H v H' hi e y => ?_⟩⟩
  · exact ⟨xs, xs[i]'(by omega), Evl.ex_l e a1, by simp [show i < xs.length by omega]⟩
  · obtain ⟨y1, y2⟩ := y
    subst y1
    obtain ⟨v', h1, h2⟩ := dpa_get a2 (List.getElem?_eq_getElem hi)
    have e2 := y2 xs (Evl.ex_l e a1)
    rw [h1] at e2
    cases e2
    exact ⟨G2, _, .refl e, List.getElem?_eq_getElem hi, h2⟩
theorem ei_tup (h : EvD K ta ρ (.tuple ds)) : EvI K (iSeq K ta) ρ ds := fun B G H σ R E q => .inr <| h B G H σ _ E fun v G2 H2 x r => by
  obtain ⟨a, xs, rfl, a1, a2⟩ := dp_tup r
  have hl := dpa_len a2
  refine ⟨a, rfl, ⟨xs, Evl.ex_t x.sub a1⟩, q _ G2 H2 x ⟨fun i H hi e => ?_, fun H e => ⟨xs, Evl.ex_t e a1, by omega⟩, fun i H v H' hi e y => ?_⟩⟩
  · exact ⟨xs, xs[i]'(by omega), Evl.ex_t e a1, by simp [show i < xs.length by omega]⟩
  · obtain ⟨y1, y2⟩ := y
    subst y1
    obtain ⟨v', h1, h2⟩ := dpa_get a2 (List.getElem?_eq_getElem hi)
    have e2 := y2 xs (Evl.ex_t e a1)
    rw [h1] at e2
    cases e2
    exact ⟨G2, _, .refl e, List.getElem?_eq_getElem hi, h2⟩
def dRg (n : Nat) : List PyData := (List.range n).map fun (j : Nat) => PyData.int (j : Int)
theorem walk_rg {G : Hp} (n : Nat) : WalkD K G (Itr 0 n) (dRg n) := by
  have hl : (dRg n).length = n := by unfold dRg; simp
  refine ⟨fun i H hi e => by rw [hl] at hi; exact hi, fun H e => by rw [hl]; exact Nat.le_refl _, fun i H v H' hi e y => ?_⟩
  obtain ⟨y1, y2⟩ := y
  subst y1 y2
  rw [hl] at hi
  refine ⟨G, .int (i : Int), .refl e, by unfold dRg; simp [hi], ?_⟩
  rw [Int.zero_add]
  exact .int _
theorem ei_range {n : Nat} (h : EvD K ta ρ (.int (n : Int))) (hn : n ≤ 1000) : EvI K (iRng1 (tCons ta tNil)) ρ (dRg n) := fun B G H σ R E q => h B G H σ _ E fun v G2 H2 x r => by
  refine ⟨n, by rw [dp_int r], by omega, by omega, ?_⟩
  exact q _ G2 H2 x (walk_rg n)
theorem pair_ext {G H : Hp} {T : Addr} {x y : V} {a b : PyData} (e : Ex G H) (hT : H T = none) (h1 : Dp K G x a) (h2 : Dp K G y b) : ∃ G', Ext G G' H (upd H T (.tup [x, y])) ∧ Dp K G' (.ref T) (.tuple [a, b]) := by
  have z := (Ext.refl e).new (o := .tup [x, y]) hT
  exact ⟨_, z, .tup (.inl (.inl upd_same)) (.cons (dp_mono z.ex _ _ h1) (.cons (dp_mono z.ex _ _ h2) .nil))⟩
def zipD (ds es : List PyData) : List PyData := List.zipWith (fun a b => PyData.tuple [a, b]) ds es
theorem ei_zip {tr : TA} (h : EvA K tr ρ [c, d]) (hc : (c = .tuple ds ∧ d = .tuple es) ∨ (c = .list ds ∧ d = .list es)) : EvI K (RZ.iZipA K tr) ρ (zipD ds es) := fun B G H σ R E q => h B G H σ _ E fun vs G2 H2 x r => by
  have hz : (zipD ds es).length = min ds.length es.length := by unfold zipD; simp
  cases r with
  | cons r1 r2 =>
    cases r2 with
    | cons r2 r3 =>
      cases r3
      rcases hc with ⟨rfl, rfl⟩ | ⟨rfl, rfl⟩
      · obtain ⟨a, xs, rfl, a1, a2⟩ := dp_tup r1
        obtain ⟨b, ys, rfl, b1, b2⟩ := dp_tup r2
        have l1 := dpa_len a2
        have l2 := dpa_len b2
        refine ⟨a, b, xs, ys, rfl, .inr ⟨Evl.ex_t x.sub a1, Evl.ex_t x.sub b1, q _ G2 H2 x ⟨fun i H hi e => ?_, fun H e => ⟨xs, ys, Evl.ex_t e a1, Evl.ex_t e b1, by omega⟩, fun i H v H' hi e y => ?_⟩⟩⟩
        · exact ⟨xs, ys, xs[i]'(by omega), ys[i]'(by omega), Evl.ex_t e a1, Evl.ex_t e b1, by simp [show i < xs.length by omega], by simp [show i < ys.length by omega]⟩
        · obtain ⟨T, u, w, rfl, hT, rfl, f1, f2⟩ := y
          have h1 : i < ds.length := by omega
          have h2 : i < es.length := by omega
          obtain ⟨u', p1, p2⟩ := dpa_get a2 (List.getElem?_eq_getElem h1)
          obtain ⟨w', q1, q2⟩ := dpa_get b2 (List.getElem?_eq_getElem h2)
          have e1 := f1 xs (Evl.ex_t e a1)
          have e2 := f2 ys (Evl.ex_t e b1)
          rw [p1] at e1
          rw [q1] at e2
          cases e1
          cases e2
          obtain ⟨G', z1, z2⟩ := pair_ext e hT p2 q2
          refine ⟨G', _, z1, ?_, z2⟩
          unfold zipD
          rw [List.getElem?_zipWith, List.getElem?_eq_getElem h1, List.getElem?_eq_getElem h2]
      · obtain ⟨a, xs, rfl, a1, a2⟩ := dp_lst r1
        obtain ⟨b, ys, rfl, b1, b2⟩ := dp_lst r2
        have l1 := dpa_len a2
        have l2 := dpa_len b2
        refine ⟨a, b, xs, ys, rfl, .inl ⟨Evl.ex_l x.sub a1, Evl.ex_l x.sub b1, q _ G2 H2 x ⟨fun i H hi e => ?_, fun H e => ⟨xs, ys, Evl.ex_l e a1, Evl.ex_l e b1, by omega⟩, fun i H v H' hi e y => ?_⟩⟩⟩
        · exact ⟨xs, ys, xs[i]'(by omega), ys[i]'(by omega), Evl.ex_l e a1, Evl.ex_l e b1, by simp [show i < xs.length by omega], by simp [show i < ys.length by omega]⟩
        · obtain ⟨T, u, w, rfl, hT, rfl, f1, f2⟩ := y
          have h1 : i < ds.length := by omega
          have h2 : i < es.length := by omega
          obtain ⟨u', p1, p2⟩ := dpa_get a2 (List.getElem?_eq_getElem h1)
          obtain ⟨w', q1, q2⟩ := dpa_get b2 (List.getElem?_eq_getElem h2)
          have e1 := f1 xs (Evl.ex_l e a1)
          have e2 := f2 ys (Evl.ex_l e b1)
          rw [p1] at e1
          rw [q1] at e2
          cases e1
          cases e2
          obtain ⟨G', z1, z2⟩ := pair_ext e hT p2 q2
          refine ⟨G', _, z1, ?_, z2⟩
          unfold zipD
          rw [List.getElem?_zipWith, List.getElem?_eq_getElem h1, List.getElem?_eq_getElem h2]
def enumD (ds : List PyData) : List PyData := ds.zipIdx.map fun p => PyData.tuple [.int (p.2 : Int), p.1]
theorem enumD_len : (enumD ds).length = ds.length := by unfold enumD; simp
theorem enumD_get {i : Nat} (h : ds[i]? = some d) : (enumD ds)[i]? = some (.tuple [.int (i : Int), d]) := by
  unfold enumD
  simp [h]
theorem ei_enumT (h : EvD K ta ρ (.tuple ds)) : EvI K (Gap.iEnumT K (tCons ta tNil)) ρ (enumD ds) := fun B G H σ R E q => h B G H σ _ E fun v G2 H2 x r => by
  obtain ⟨a, xs, rfl, a1, a2⟩ := dp_tup r
  have hl := dpa_len a2
  have he := enumD_len (ds := ds)
  refine ⟨a, xs, rfl, Evl.ex_t x.sub a1, q _ G2 H2 x ⟨fun i H hi e => ?_, fun H e => ⟨xs, Evl.ex_t e a1, by omega⟩, fun i H v H' hi e y => ?_⟩⟩
  · exact ⟨xs, xs[i]'(by omega), Evl.ex_t e a1, by simp [show i < xs.length by omega]⟩
  · obtain ⟨T, u, rfl, hT, rfl, f1⟩ := y
    have h1 : i < ds.length := by omega
    obtain ⟨u', p1, p2⟩ := dpa_get a2 (List.getElem?_eq_getElem h1)
    have e1 := f1 xs (Evl.ex_t e a1)
    rw [p1] at e1
    cases e1
    obtain ⟨G', z1, z2⟩ := pair_ext e hT (.int (i : Int)) p2
    exact ⟨G', _, z1, enumD_get (List.getElem?_eq_getElem h1), z2⟩
/-! ### targets -/
theorem wipe_at (σ : L2.St) : ∀ (vs : List Nat) (i : Nat), (wipe σ vs)[i]? = if i ∈ vs then (σ[i]?).map fun _ => none else σ[i]?
  | [], i => by simp [wipe]
  | v :: vs, i => by
    unfold wipe
    by_cases h : v = i
    · subst h
      rw [List.getElem?_set_self']
      rw [wipe_at σ vs v]
      by_cases hv : v ∈ vs <;> (simp [hv]; cases σ[v]? <;> rfl)
    · rw [List.getElem?_set_ne h, wipe_at σ vs i]
      have : i ≠ v := fun z => h z.symm
      simp [this]
theorem wipe_set {σ : L2.St} {vs : List Nat} {j : Nat} {x : Option V} (h : j ∈ vs) : wipe (σ.set j x) vs = wipe σ vs := by
  apply List.ext_getElem?
  intro i
  rw [wipe_at, wipe_at]
  by_cases hi : i ∈ vs
  · rw [if_pos hi, if_pos hi]
    by_cases hj : j = i
    · subst hj
      rw [List.getElem?_set_self']
      cases σ[j]? <;> rfl
    · rw [List.getElem?_set_ne hj]
  · rw [if_neg hi, if_neg hi, List.getElem?_set_ne fun z => hi (by rw [← z]; exact h)]
theorem wipe_wipe {σ : L2.St} {vs : List Nat} : wipe (wipe σ vs) vs = wipe σ vs := by
  apply List.ext_getElem?
  intro i
  rw [wipe_at, wipe_at]
  by_cases hi : i ∈ vs
  · rw [if_pos hi, if_pos hi]
    cases σ[i]? <;> rfl
  · rw [if_neg hi, if_neg hi]
theorem eg_name (j : Nat) : EvG K (gName j) ρ d (ρ.set j (.dat d)) [j] := fun B G H σ x Q E h q => q _ (E.setD h) fun vs hv => wipe_set (hv j (by simp))
theorem eg_pair (i j : Nat) : EvG K (gTup K 2 (gCons (gName i) (gCons (gName j) gNil))) ρ (.tuple [c, d]) ((ρ.set i (.dat c)).set j (.dat d)) [i, j] := fun B G H σ x Q E h q => by
  obtain ⟨a, xs, rfl, a1, a2⟩ := dp_tup h
  cases a2 with
  | cons r1 r2 =>
    cases r2 with
    | cons r2 r3 =>
      cases r3
      refine ⟨a, _, rfl, Evl.ex_t E.sub a1, rfl, _, _, rfl, _, _, rfl, rfl, ?_⟩
      refine q _ ((E.setD r1).setD r2) fun vs hv => ?_
      rw [wipe_set (hv j (by simp)), wipe_set (hv i (by simp))]
/-! ### comprehensions -/
theorem el_lcF {α : Type} {l : List α} {enc : α → PyData} {p : α → Bool} {r : α → PyData} {wi : TI} {g : TG} {vs js : List Nat} (hi : EvI K wi ρ (l.map enc)) (hl : l.length ≤ 1000) (hj : ∀ j ∈ js, j ∈ vs)
    (ht : ∀ a ∈ l, ∃ ρ', EvG K g (wipeR ρ vs) (enc a) ρ' js ∧ EvT K tt ρ' (p a) ∧ (p a = true → EvD K te ρ' (r a))) : EvL K (tLc wi g tt te vs) ρ ((l.filter p).map r) := fun B G H σ Q E q => hi B G H σ _ E fun J G2 H2 x w => by
  intro D hD
  have hlen : (l.map enc).length = l.length := List.length_map _
  refine ⟨fun i m H3 => m = l.length - i ∧ i ≤ l.length ∧ ∃ G3 acc, Ext G2 G3 H2 H3 ∧ G3 D = none ∧ H3 D = some (.lst acc) ∧ DpAll K G3 acc (((l.take i).filter p).map r), ⟨l.length, by simp, Nat.zero_le _, G2, [], (Ext.refl x.sub).newH hD, x.freshG hD, upd_same, by simp; exact .nil⟩, ?_⟩
  rintro i m H3 ⟨rfl, hil, G3, acc, y, gD, hDl, hacc⟩
  by_cases hlt : i < l.length
  · refine .inr ⟨w.go i H3 (by rw [hlen]; exact hlt) (y.ex.trans y.sub), fun H' => ∃ G4 acc', Ext G2 G4 H2 H' ∧ G4 D = none ∧ H' D = some (.lst acc') ∧ DpAll K G4 acc' (((l.take (i + 1)).filter p).map r), fun H' hn => ⟨l.length - (i + 1), by omega, rfl, hlt, hn⟩, fun u H' hy => ?_⟩
    obtain ⟨G', d0, z, hd0, hdp⟩ := w.yld i H3 u H' (by rw [hlen]; exact hlt) (y.ex.trans y.sub) hy
    have hd1 : d0 = enc l[i] := by
      rw [List.getElem?_map, List.getElem?_eq_getElem hlt] at hd0
      exact (Option.some.inj hd0).symm
    subst hd1
    obtain ⟨G'', z1, z2⟩ := Ext.widen y.ex y.sub z
    obtain ⟨ρ', hg, htt, hte⟩ := ht l[i] (List.getElem_mem hlt)
    have E1 := ((((E.ext x).ext y).ext z1).wipe vs)
    have etake : l.take (i + 1) = l.take i ++ [l[i]] := by rw [List.take_add_one, List.getElem?_eq_getElem hlt]; rfl
    refine hg B G'' H' (wipe σ vs) u _ E1 (dp_mono z2 _ _ hdp) fun σ2 E2 hw => ⟨by rw [hw vs hj, wipe_wipe], ?_⟩
    refine htt B G'' H' σ2 _ E2 fun G5 H5 z5 => ?_
    have dG : G'' D = none := z1.sep D gD (by rw [hDl]; exact fun n => nomatch n)
    have dH : H' D = some (.lst acc) := z1.on _ _ hDl
    have dG5 : G5 D = none := z5.sep D dG (by rw [dH]; exact fun n => nomatch n)
    have dH5 : H5 D = some (.lst acc) := z5.on _ _ dH
    cases hp : p l[i] with
    | false =>
      simp only [Bool.false_eq_true, if_false]
      refine ⟨G5, acc, (y.trans z1).trans z5, dG5, dH5, ?_⟩
      rw [etake, List.filter_append, List.map_append]
      have e0 : List.filter p [l[i]] = [] := by simp [hp]
      rw [e0, List.map_nil, List.append_nil]
      exact dpa_mono (z1.ex.trans z5.ex) _ _ hacc
    | true =>
      simp only [if_true]
      refine hte hp B G5 H5 σ2 _ (E2.ext z5) fun v G6 H6 z6 hv => ?_
      have dG6 : G6 D = none := z6.sep D dG5 (by rw [dH5]; exact fun n => nomatch n)
      have dH6 : H6 D = some (.lst acc) := z6.on _ _ dH5
      have hal := dpa_len hacc
      have hfl : (((l.take i).filter p).map r).length ≤ 1000 := by
        rw [List.length_map]
        refine Nat.le_trans (List.length_filter_le _ _) ?_
        rw [List.length_take]
        omega
      refine ⟨acc, dH6, small1000 (by omega), G6, acc ++ [v], ?_, dG6, upd_same, ?_⟩
      · have t := ((y.trans z1).trans z5).trans z6
        refine ⟨t.ex, fun a o e => ?_, fun a o e => ?_, t.sep⟩
        · rw [upd_ne fun n => by subst n; rw [dG6] at e; cases e]
          exact t.sub a o e
        · rw [upd_ne fun n => by subst n; rw [hD] at e; cases e]
          exact t.on a o e
      · rw [etake, List.filter_append, List.map_append]
        have e0 : List.filter p [l[i]] = [l[i]] := by simp [hp]
        rw [e0]
        exact dpa_append (dpa_mono ((z1.ex.trans z5.ex).trans z6.ex) _ _ hacc) (.cons hv .nil)
  · have hie : i = l.length := by omega
    subst hie
    refine .inl ⟨by have := w.stop H3 (y.ex.trans y.sub); rw [hlen] at this; exact this, ?_⟩
    rw [List.take_of_length_le (Nat.le_refl _)] at hacc
    exact q D acc G3 H3 (x.trans y) (x.freshH hD) gD hDl hacc
theorem el_lc {α : Type} {l : List α} {enc : α → PyData} {r : α → PyData} {wi : TI} {g : TG} {vs js : List Nat} (hi : EvI K wi ρ (l.map enc)) (hl : l.length ≤ 1000) (hj : ∀ j ∈ js, j ∈ vs)
    (ht : ∀ a ∈ l, ∃ ρ', EvG K g (wipeR ρ vs) (enc a) ρ' js ∧ EvD K te ρ' (r a)) : EvL K (tLc wi g tYes te vs) ρ (l.map r) := by
  have z := el_lcF (K := K) (ρ := ρ) (te := te) (tt := tYes) (p := fun _ => true) (r := r) hi hl hj fun a ha => let ⟨ρ', h1, h2⟩ := ht a ha; ⟨ρ', h1, et_yes, fun _ => h2⟩
  have e : l.filter (fun _ => true) = l := List.filter_eq_self.mpr fun _ _ => rfl
  rw [e] at z
  exact z
/-- .. the data as they come, the result as it is wanted -/
theorem el_lcE {α : Type} {l : List α} {enc : α → PyData} {r : α → PyData} {wi : TI} {g : TG} {vs js : List Nat} (hi : EvI K wi ρ ds) (e1 : ds = l.map enc) (hl : l.length ≤ 1000) (hj : ∀ j ∈ js, j ∈ vs)
    (ht : ∀ a ∈ l, ∃ ρ', EvG K g (wipeR ρ vs) (enc a) ρ' js ∧ EvD K te ρ' (r a)) (e2 : es = l.map r) : EvL K (tLc wi g tYes te vs) ρ es := by
  subst e1 e2
  exact el_lc hi hl hj ht
theorem el_lcFE {α : Type} {l : List α} {enc : α → PyData} {p : α → Bool} {r : α → PyData} {wi : TI} {g : TG} {vs js : List Nat} (hi : EvI K wi ρ ds) (e1 : ds = l.map enc) (hl : l.length ≤ 1000) (hj : ∀ j ∈ js, j ∈ vs)
    (ht : ∀ a ∈ l, ∃ ρ', EvG K g (wipeR ρ vs) (enc a) ρ' js ∧ EvT K tt ρ' (p a) ∧ (p a = true → EvD K te ρ' (r a))) (e2 : es = (l.filter p).map r) : EvL K (tLc wi g tt te vs) ρ es := by
  subst e1 e2
  exact el_lcF hi hl hj ht
/-! ### calls -/
/-- what a def promises over typed data -/
def spT (K : PySem.W.Frag) {α : Type} (enc : α → List PyData) (Pre : α → Prop) (R : α → PyData → Prop) : Sp := fun vs H Q _ => ∃ (a : α) (G : Hp), Ex G H ∧ DpAll K G vs (enc a) ∧ Pre a ∧ ∀ v d G2 H2, R a d → Ext G G2 H H2 → Dp K G2 v d → Q v H2
theorem ep_call {α : Type} {enc : α → List PyData} {Pre : α → Prop} {R : α → PyData → Prop} {tr : TA} {E0 : XK} (a : α) (ha : EvA K tr ρ (enc a)) (hp : Pre a) : EvP K (tCall (spT K enc Pre R) [] E0 tr) ρ (R a) := fun B G H σ Q E q => ha B G H σ _ E fun vs G2 H2 x r =>
  ⟨a, G2, x.sub, by rw [List.append_nil]; exact r, hp, fun v d G3 H3 hr y hd => q v d G3 H3 hr (x.trans y) hd⟩
theorem ed_call {α : Type} {enc : α → List PyData} {Pre : α → Prop} {out : α → PyData} {tr : TA} {E0 : XK} (a : α) (ha : EvA K tr ρ (enc a)) (hp : Pre a) : EvD K (tCall (spT K enc Pre fun a d => d = out a) [] E0 tr) ρ (out a) :=
  ed_of (ep_call a ha hp) fun _ h => h
end
end My
/-! the calculus: statements, defs -/
namespace My
open PySem PySem.Spec PyProof.Rows L2
open Evl (Ex)
/-- from slots ρ the statements end in RT (a return), NX, BK, CT -/
def Runs (K : PySem.W.Frag) (ts : TS) (ρ : Ro) (RT : Ro → PyData → Prop) (NX BK CT : Ro → Prop) : Prop :=
  ∀ (G0 H0 G H : Hp) (σ : L2.St) (D : Ends), EnvG K H0 G H σ ρ → Ext G0 G H0 H →
    (∀ ρ' d v G2 H2 σ2, RT ρ' d → EnvG K H0 G2 H2 σ2 ρ' → Ext G0 G2 H0 H2 → Dp K G2 v d → D.rt v H2) →
    (∀ ρ' G2 H2 σ2, NX ρ' → EnvG K H0 G2 H2 σ2 ρ' → Ext G0 G2 H0 H2 → D.nx σ2 H2) →
    (∀ ρ' G2 H2 σ2, BK ρ' → EnvG K H0 G2 H2 σ2 ρ' → Ext G0 G2 H0 H2 → D.bk σ2 H2) →
    (∀ ρ' G2 H2 σ2, CT ρ' → EnvG K H0 G2 H2 σ2 ρ' → Ext G0 G2 H0 H2 → D.ct σ2 H2) → ts D σ H
section
variable {K : PySem.W.Frag} {ρ ρ' : Ro} {ta tb te : TE} {tt : TT} {t u : TS} {c d e : PyData} {ds es : List PyData} {i j : Nat} {RT : Ro → PyData → Prop} {NX BK CT M : Ro → Prop} {P : PyData → Prop}
theorem r_seq (h : Runs K t ρ RT M BK CT) (k : ∀ ρ', M ρ' → Runs K u ρ' RT NX BK CT) : Runs K (tSeq t u) ρ RT NX BK CT := fun G0 H0 G H σ D E x rt nx bk ct =>
  h G0 H0 G H σ { D with nx := u D } E x rt (fun ρ' G2 H2 σ2 m E2 x2 => k ρ' m G0 H0 G2 H2 σ2 D E2 x2 rt nx bk ct) bk ct
theorem r_then (h : Runs K t ρ RT (fun z => z = ρ') BK CT) (k : Runs K u ρ' RT NX BK CT) : Runs K (tSeq t u) ρ RT NX BK CT := r_seq h fun z e => by subst e; exact k
theorem r_seqX (h : Runs K t ρ RT (fun _ => False) BK CT) : Runs K (tSeq t u) ρ RT NX BK CT := r_seq h fun _ e => e.elim
theorem r_next (h : NX ρ) : Runs K tNext ρ RT NX BK CT := fun G0 H0 G H σ D E x rt nx bk ct => nx ρ G H σ h E x
theorem r_setP (h : EvP K te ρ P) (k : ∀ d, P d → NX (ρ.set i (.dat d))) : Runs K (tAsg te (gName i)) ρ RT NX BK CT := fun G0 H0 G H σ D E x rt nx bk ct => h H0 G H σ _ E fun v d G2 H2 p y hd => nx _ G2 H2 _ (k d p) ((E.ext y).setD hd) (x.trans y)
theorem r_set (h : EvD K te ρ d) (k : NX (ρ.set i (.dat d))) : Runs K (tAsg te (gName i)) ρ RT NX BK CT := r_setP (P := fun z => z = d) (ep_of h rfl) fun z e => by subst e; exact k
theorem EnvG.newL {B G H G2 H2 : Hp} {σ : L2.St} {p : Addr} {xs : List V} (E : EnvG K B G H σ ρ) (y : Ext G G2 H H2) (hB : B p = none) (hp : H p = none) (gp : G2 p = none) (hl : H2 p = some (.lst xs)) (hd : DpAll K G2 xs ds) : EnvG K B G2 H2 (σ.set i (some (.ref p))) (ρ.set i (.lv ds)) := by
  refine (E.ext y).setM hl gp hB hd fun j s hj hs hc e => ?_
  obtain ⟨z, hz, q⟩ := E.slot j s hs
  rw [e] at hz
  cases hz
  cases s with
  | no => cases hc
  | dat d => cases hc
  | lv zs =>
    obtain ⟨l2, xs2, q1, q2, _⟩ := q
    cases q1
    rw [hp] at q2; cases q2
  | cel u n =>
    obtain ⟨q1, ⟨xs2, q2, _⟩, _⟩ := q
    cases q1
    rw [hp] at q2; cases q2
theorem r_setL (h : EvL K te ρ ds) (k : NX (ρ.set i (.lv ds))) : Runs K (tAsg te (gName i)) ρ RT NX BK CT := fun G0 H0 G H σ D E x rt nx bk ct => h H0 G H σ _ E fun p xs G2 H2 y h1 h2 h3 h4 =>
  nx _ G2 H2 _ k (E.newL y (x.freshH h1) h1 h2 h3 h4) (x.trans y)
theorem r_asgG {g : TG} {js : List Nat} (h : EvD K te ρ d) (hg : EvG K g ρ d ρ' js) (k : NX ρ') : Runs K (tAsg te g) ρ RT NX BK CT := fun G0 H0 G H σ D E x rt nx bk ct => h H0 G H σ _ E fun v G2 H2 y hd =>
  hg H0 G2 H2 σ v _ (E.ext y) hd fun σ2 E2 _ => nx _ G2 H2 σ2 k E2 (x.trans y)
theorem r_ret (h : EvD K te ρ d) (k : RT ρ d) : Runs K (tRet te) ρ RT NX BK CT := fun G0 H0 G H σ D E x rt nx bk ct => h H0 G H σ _ E fun v G2 H2 y hd => rt ρ d v G2 H2 σ k (E.ext y) (x.trans y) hd
theorem r_retP (h : EvP K te ρ P) (k : ∀ d, P d → RT ρ d) : Runs K (tRet te) ρ RT NX BK CT := fun G0 H0 G H σ D E x rt nx bk ct => h H0 G H σ _ E fun v d G2 H2 p y hd => rt ρ d v G2 H2 σ (k d p) (E.ext y) (x.trans y) hd
theorem r_if {b : Bool} (h : EvT K tt ρ b) (h1 : b = true → Runs K t ρ RT NX BK CT) (h2 : b = false → Runs K u ρ RT NX BK CT) : Runs K (tIfS tt t u) ρ RT NX BK CT := fun G0 H0 G H σ D E x rt nx bk ct => h H0 G H σ _ E fun G2 H2 y => by
  cases b with
  | true => exact h1 rfl G0 H0 G2 H2 σ D (E.ext y) (x.trans y) rt nx bk ct
  | false => exact h2 rfl G0 H0 G2 H2 σ D (E.ext y) (x.trans y) rt nx bk ct
theorem r_freeze (hi : ρ[i]? = some (.lv ds)) (h : Runs K t (ρ.set i (.dat (.list ds))) RT NX BK CT) : Runs K t ρ RT NX BK CT := fun G0 H0 G H σ D E x rt nx bk ct => by
  obtain ⟨l, xs, h1, h2, h3, h4, E2⟩ := E.freeze hi
  exact h G0 H0 _ H σ D E2 (x.take h4 h3 h2) rt nx bk ct
theorem r_app (hi : ρ[i]? = some (.lv ds)) (h : EvD K te ρ d) (hl : ds.length < 1000) (k : NX (ρ.set i (.lv (ds ++ [d])))) : Runs K (tDrop (tBM K "list" rAppend (tVar i) (tCons te tNil))) ρ RT NX BK CT := fun G0 H0 G H σ D E x rt nx bk ct => by
  obtain ⟨y, hy, l, xs, rfl, hH, hG, hB, hd⟩ := E.slot i _ hi
  refine ⟨.ref l, hy, .inl ⟨rfl, xs, .inl (.inl hH)⟩, h H0 G H σ _ E fun v G2 H2 z hv => ?_⟩
  refine ⟨l, xs, v, rfl, rfl, z.on _ _ hH, small1000 (by rw [dpa_len hd]; omega), ?_⟩
  refine nx _ G2 _ σ k ((E.ext z).mutate hi hy (dpa_append (dpa_mono z.ex _ _ hd) (.cons hv .nil))) ?_
  have w := x.trans z
  have g2 : G2 l = none := z.sep l hG (by rw [hH]; exact fun n => nomatch n)
  exact ⟨w.ex, fun a o e => by rw [upd_ne fun n => by subst n; rw [g2] at e; cases e]; exact w.sub a o e, fun a o e => by rw [upd_ne fun n => by subst n; rw [hB] at e; cases e]; exact w.on a o e, w.sep⟩
theorem r_par {tr : TA} (h : EvA K tr ρ [c, d]) (k : NX ((ρ.set i (.dat c)).set j (.dat d))) : Runs K (tPar i j tr) ρ RT NX BK CT := fun G0 H0 G H σ D E x rt nx bk ct => h H0 G H σ _ E fun vs G2 H2 y hd => by
  cases hd with
  | cons r1 r2 =>
    cases r2 with
    | cons r2 r3 =>
      cases r3
      exact ⟨_, _, rfl, nx _ G2 H2 _ k (((E.ext y).setD r1).setD r2) (x.trans y)⟩
theorem r_par3 {tr : TA} {l : Nat} (h : EvA K tr ρ [c, d, e]) (k : NX (((ρ.set i (.dat c)).set j (.dat d)).set l (.dat e))) : Runs K (tPar3 i j l tr) ρ RT NX BK CT := fun G0 H0 G H σ D E x rt nx bk ct => h H0 G H σ _ E fun vs G2 H2 y hd => by
  cases hd with
  | cons r1 r2 =>
    cases r2 with
    | cons r2 r3 =>
      cases r3 with
      | cons r3 r4 =>
        cases r4
        exact ⟨_, _, _, rfl, nx _ G2 H2 _ k ((((E.ext y).setD r1).setD r2).setD r3) (x.trans y)⟩
/-- behind a rebase -/
theorem EnvG.back {G0 H0 G H G3 H3 : Hp} {σ σ3 : L2.St} {ρ3 : Ro} (E : EnvG K H0 G H σ ρ) (x : Ext G0 G H0 H) (E3 : EnvG K (mask σ ρ H) G3 H3 σ3 ρ3) : EnvG K H0 G3 H3 σ3 ρ3 :=
  E3.unbase fun a h => by
    cases q : H0 a with
    | none => rfl
    | some o => rw [E.old q (x.on _ _ q)] at h; cases h
theorem r_for {wi : TI} {g : TG} {tb : TS} (hi : EvI K wi ρ ds) (Iv : Nat → Ro → Prop) (h0 : Iv 0 ρ)
    (hs : ∀ (i : Nat) (d : PyData) (ρ1 : Ro), ds[i]? = some d → Iv i ρ1 → ∃ ρ2 js, EvG K g ρ1 d ρ2 js ∧ Runs K tb ρ2 RT (Iv (i + 1)) NX (Iv (i + 1))) (hd : ∀ ρ1, Iv ds.length ρ1 → NX ρ1) : Runs K (tFor wi g tb) ρ RT NX BK CT := fun G0 H0 G H σ D E x rt nx bk ct => hi H0 G H σ _ E fun J G2 H2 y w => by
  have E2 := E.ext y
  have xy := x.trans y
  have rtM : ∀ ρ' d v G3 H3 σ3, RT ρ' d → EnvG K (mask σ ρ H2) G3 H3 σ3 ρ' → Ext G2 G3 (mask σ ρ H2) H3 → Dp K G3 v d → D.rt v H3 := fun ρ' d v G3 H3 σ3 a b c e => rt ρ' d v G3 H3 σ3 a (E2.back xy b) (Ext.based E2 xy c) e
  have nxM : ∀ ρ' G3 H3 σ3, NX ρ' → EnvG K (mask σ ρ H2) G3 H3 σ3 ρ' → Ext G2 G3 (mask σ ρ H2) H3 → D.nx σ3 H3 := fun ρ' G3 H3 σ3 a b c => nx ρ' G3 H3 σ3 a (E2.back xy b) (Ext.based E2 xy c)
  refine ⟨fun i m σ1 H1 => m = ds.length - i ∧ i ≤ ds.length ∧ ∃ ρ1 G1, Iv i ρ1 ∧ EnvG K (mask σ ρ H2) G1 H1 σ1 ρ1 ∧ Ext G2 G1 (mask σ ρ H2) H1, ⟨ds.length, by simp, Nat.zero_le _, ρ, G2, h0, E2.rebase, E2.selfExt⟩, ?_⟩
  rintro i m σ1 H1 ⟨rfl, hil, ρ1, G1, iv, E1, x1⟩
  have eg : Ex G2 H1 := x1.ex.trans x1.sub
  by_cases hlt : i < ds.length
  · refine .inr ⟨w.go i H1 hlt eg, fun σ' H' => ∃ ρ' G', Iv (i + 1) ρ' ∧ EnvG K (mask σ ρ H2) G' H' σ' ρ' ∧ Ext G2 G' (mask σ ρ H2) H', fun σ' H' hn => ⟨ds.length - (i + 1), by omega, rfl, hlt, hn⟩, fun v H' hy => ?_⟩
    obtain ⟨G', d0, z, hd0, hdp⟩ := w.yld i H1 v H' hlt eg hy
    obtain ⟨G'', z1, z2⟩ := Ext.widen x1.ex E1.sub z
    obtain ⟨ρ2, js, hg, hr⟩ := hs i d0 ρ1 hd0 iv
    refine hg _ G'' H' σ1 v _ (E1.ext z1) (dp_mono z2 _ _ hdp) fun σ2 E3 _ => ?_
    exact hr G2 (mask σ ρ H2) G'' H' σ2 _ E3 (x1.trans z1) rtM (fun ρ' G3 H3 σ3 a b c => ⟨ρ', G3, a, b, c⟩) nxM (fun ρ' G3 H3 σ3 a b c => ⟨ρ', G3, a, b, c⟩)
  · have hie : i = ds.length := by omega
    subst hie
    exact .inl ⟨w.stop H1 eg, nxM ρ1 G1 H1 σ1 (hd ρ1 iv) E1 x1⟩
theorem r_while {tb : TS} (Iv : Nat → Ro → Prop) (m0 : Nat) (h0 : Iv m0 ρ)
    (hs : ∀ (m : Nat) (ρ1 : Ro), Iv m ρ1 → ∃ b, EvT K tt ρ1 b ∧ (b = true → Runs K tb ρ1 RT (fun z => ∃ m', m' < m ∧ Iv m' z) NX (fun z => ∃ m', m' < m ∧ Iv m' z)) ∧ (b = false → NX ρ1)) : Runs K (tWhile tt tb) ρ RT NX BK CT := fun G0 H0 G H σ D E x rt nx bk ct => by
  refine ⟨fun m σ1 H1 => ∃ ρ1 G1, Iv m ρ1 ∧ EnvG K H0 G1 H1 σ1 ρ1 ∧ Ext G0 G1 H0 H1, ⟨m0, ρ, G, h0, E, x⟩, ?_⟩
  rintro m σ1 H1 ⟨ρ1, G1, iv, E1, x1⟩
  obtain ⟨b, hb, h1, h2⟩ := hs m ρ1 iv
  refine hb H0 G1 H1 σ1 _ E1 fun G2 H2 y => ?_
  cases b with
  | true =>
    refine ⟨fun σ' H' => ∃ ρ' G', (∃ m', m' < m ∧ Iv m' ρ') ∧ EnvG K H0 G' H' σ' ρ' ∧ Ext G0 G' H0 H', fun σ' H' ⟨ρ', G', ⟨m', hm, iv'⟩, E', x'⟩ => ⟨m', hm, ρ', G', iv', E', x'⟩, ?_⟩
    exact h1 rfl G0 H0 G2 H2 σ1 _ (E1.ext y) (x1.trans y) rt (fun ρ' G3 H3 σ3 a b c => ⟨ρ', G3, a, b, c⟩) nx (fun ρ' G3 H3 σ3 a b c => ⟨ρ', G3, a, b, c⟩)
  | false => exact nx ρ1 G2 H2 σ1 (h2 rfl) (E1.ext y) (x1.trans y)
end
/-! ### defs -/
section
variable {P : Program} {w : World} {K : PySem.W.Frag} {mg : Str → Option Value} {base : Heap}
theorem start_env {B G H : Hp} {N : List Str} {vs : List V} {ds : List PyData} (hg : Ex G H) (h : DpAll K G vs ds) (hl : ds.length ≤ N.length) : EnvG K B G H (L2.start N vs) (ds.map SD.dat ++ List.replicate (N.length - ds.length) SD.no) := by
  have e := dpa_len h
  have nc : ∀ (i : Nat) (s : SD), (ds.map SD.dat ++ List.replicate (N.length - ds.length) SD.no)[i]? = some s → s.cell = false := fun i s hs => by
    have hm := List.mem_of_getElem? hs
    rcases List.mem_append.mp hm with hm | hm
    · obtain ⟨d, _, rfl⟩ := List.mem_map.mp hm
      rfl
    · rw [(List.mem_replicate.mp hm).2]
      rfl
  refine ⟨hg, by unfold L2.start; simp; omega, fun i s hs => ?_, fun i j s t l _ h1 h2 c1 => by rw [nc i s h1] at c1; cases c1⟩
  unfold L2.start
  by_cases hi : i < ds.length
  · rw [List.getElem?_append_left (by simpa using hi)] at hs
    rw [List.getElem?_append_left (by simpa [e] using hi)]
    rw [List.getElem?_map, List.getElem?_eq_getElem hi] at hs
    cases hs
    obtain ⟨v, h1, h2⟩ := dpa_get h (List.getElem?_eq_getElem hi)
    exact ⟨some v, by rw [List.getElem?_map, h1]; rfl, v, rfl, h2⟩
  · rw [List.getElem?_append_right (by simpa using hi)] at hs
    have hm := List.mem_of_getElem? hs
    have z := (List.mem_replicate.mp hm).2
    subst z
    have hlt : i < (vs.map some ++ List.replicate (N.length - vs.length) (none : Option V)).length := by
      obtain ⟨q, _⟩ := List.getElem?_eq_some_iff.mp hs
      simp at q ⊢
      omega
    exact ⟨_, List.getElem?_eq_getElem hlt, trivial⟩
theorem fn_t {α : Type} {enc : α → List PyData} {Pre : α → Prop} {R : α → PyData → Prop} {x qual : Str} {st : Stmt} {f : Addr} {fd : FuncData} {N ps : List Str} {k : Nat} (F : Fun K x qual st f fd) (S : FnScope N ps (defScope st)) (hl : ∀ a, Pre a → (enc a).length = ps.length) (hN : ps.length ≤ N.length)
    (h : ∀ (cdv : Value) (A : Around) (outer : List Env) (s : Shared) (H : Hp) (E : XK), Room k (A.deeper (envOfC qual (defScope st) s.heap.objs.size f cdv)) → ∃ t, PSs (cxOf CX0 P w K mg base N qual (defScope st) f cdv A outer s H E).nox (defBody st) t ∧
      ∀ a, Pre a → Runs K t ((enc a).map SD.dat ++ List.replicate (N.length - (enc a).length) SD.no) (fun _ d => R a d) (fun _ => R a .none) (fun _ => False) (fun _ => False)) : FnOk P w K mg base CX0 (k + 1) f fd ps (spT K enc Pre R) := by
  refine F.ok S (fun vs H Q E hsp => ?_) (fun cdv A outer s H vs Q E hr hsp => ?_)
  · obtain ⟨a, G, hg, hd, hp, _⟩ := hsp
    rw [dpa_len hd]
    exact hl a hp
  · obtain ⟨a, G, hg, hd, hp, q⟩ := hsp
    obtain ⟨t, ht, hrun⟩ := h cdv A outer s H E hr
    refine ⟨t, ht, ?_⟩
    refine hrun a hp G H G H _ _ (start_env hg hd (by rw [hl a hp]; exact hN)) (.refl hg) (fun ρ' d v G2 H2 σ2 hR _ y hv => q v d G2 H2 hR y hv) (fun ρ' G2 H2 σ2 hR _ y => q .non .none G2 H2 hR y .non) (fun _ _ _ _ h => h.elim) (fun _ _ _ _ h => h.elim)
/-- a def of the module, with its promise -/
structure Cal (P : Program) (w : World) (K : PySem.W.Frag) (mg : Str → Option Value) (base : Heap) (k : Nat) (x : Str) (ps : List Str) (sp : Sp) : Prop where
  ex : ∃ f fd, FnOk P w K mg base CX0 k f fd ps sp ∧ mg x = some (.ref f) ∧ PySem.W.keepIn K (.ref f) = true ∧ Binds K fd ps []
/-- a def as it stands -/
structure Df (K : PySem.W.Frag) (mg : Str → Option Value) (x : Str) (st : Stmt) (ps : List Str) : Prop where
  ex : ∃ f fd, Fun K x x st f fd ∧ mg x = some (.ref f) ∧ Binds K fd ps []
theorem cal_of {k : Nat} {x : Str} {st : Stmt} {ps : List Str} {sp : Sp} (D : Df K mg x st ps) (h : ∀ f fd, Fun K x x st f fd → FnOk P w K mg base CX0 k f fd ps sp) : Cal P w K mg base k x ps sp := by
  obtain ⟨f, fd, F, m, b⟩ := D.ex
  exact ⟨f, fd, h f fd F, m, F.kp, b⟩
theorem cal_never {α : Type} {enc : α → List PyData} {Pre : α → Prop} {R : α → PyData → Prop} {x : Str} {st : Stmt} {ps : List Str} (D : Df K mg x st ps) (hp : ∀ a, ¬ Pre a) : Cal P w K mg base 0 x ps (spT K enc Pre R) := by
  obtain ⟨f, fd, F, m, b⟩ := D.ex
  refine ⟨f, fd, ⟨fun vs H Q E h => ?_, fun A outer s H args us vs Q E _ _ _ _ h => ?_⟩, m, F.kp, b⟩
  · obtain ⟨a, _, _, _, h, _⟩ := h
    exact absurd h (hp a)
  · obtain ⟨a, _, _, _, h, _⟩ := h
    exact absurd h (hp a)
theorem pe_cal {X : Cx} {k j : Nat} {x : Str} {ps : List Str} {sp : Sp} {e : Expr} {es : List Expr} {t : TA} {p pos : Pos} (C : Cal X.prog X.w X.K X.mg X.base k x ps sp) (hr : Room j X.A) (hk : k ≤ j) (hg : Gl X x) (ha : PA X (e :: es) t)
    (hd : (x == ("__debug__" : Str)) = false := by decide) (hs : starEach (e :: es) X.env = (false, eval e X.env) :: starEach es X.env := by rfl) (hpl : (backTo pos (starEach es X.env)).any (·.1) = false := by rfl) : PE X (.Call (.Name x p) (e :: es) [] pos) (tCall sp [] E0 t) := by
  obtain ⟨f, fd, F, m, kp, b⟩ := C.ex
  exact pe_call F (hr.mono hk) hg m kp b .nil pass0 ha hd hs hpl
theorem pe_cal0 {X : Cx} {k j : Nat} {x : Str} {ps : List Str} {sp : Sp} {p pos : Pos} (C : Cal X.prog X.w X.K X.mg X.base k x ps sp) (hr : Room j X.A) (hk : k ≤ j) (hg : Gl X x)
    (hd : (x == ("__debug__" : Str)) = false := by decide) : PE X (.Call (.Name x p) [] [] pos) (tCall sp [] E0 tNil) := by
  obtain ⟨f, fd, F, m, kp, b⟩ := C.ex
  exact pe_call0 F (hr.mono hk) hg m kp b .nil pass0 hd
end
end My
/-! the calculus: two fors in a comprehension; the urn -/
namespace My
open PySem PySem.Spec PyProof.Rows L2
open Evl (Ex)
section
variable {K : PySem.W.Frag} {ρ : Ro} {ta tb te : TE} {tt tu : TT} {c d e : PyData} {ds es : List PyData} {i : Nat}
/-- all but D is kept, and D is no slot's -/
theorem EnvG.skip {B G H G2 H2 : Hp} {σ : L2.St} {D : Addr} (E : EnvG K B G H σ ρ) (hB : B D ≠ none) (e : Ex G G2) (s : Ex G2 H2) (on : ∀ a o, a ≠ D → H a = some o → H2 a = some o) (sep : ∀ a, G a = none → H a ≠ none → G2 a = none) : EnvG K B G2 H2 σ ρ := by
  refine ⟨s, E.len, fun i t h => ?_, E.dis⟩
  obtain ⟨x, h1, h2⟩ := E.slot i t h
  refine ⟨x, h1, ?_⟩
  cases t with
  | no => trivial
  | dat d => obtain ⟨v, q1, q2⟩ := h2; exact ⟨v, q1, dp_mono e _ _ q2⟩
  | lv ds =>
    obtain ⟨l, xs, q1, q2, q3, q4, q5⟩ := h2
    exact ⟨l, xs, q1, on _ _ (fun z => by subst z; exact hB q4) q2, sep l q3 (by rw [q2]; exact fun z => nomatch z), q4, dpa_mono e _ _ q5⟩
  | cel u n =>
    obtain ⟨q1, ⟨xs, q2, q3⟩, q4, q5⟩ := h2
    exact ⟨q1, ⟨xs, on _ _ (fun z => by subst z; exact hB q5) q2, dpa_mono e _ _ q3⟩, sep u q4 (by rw [q2]; exact fun z => nomatch z), q5⟩
theorem EnvG.rebaseD {B G H : Hp} {σ : L2.St} {D : Addr} {o : HO} (E : EnvG K B G H σ ρ) (hD : H D = none) : EnvG K (upd (mask σ ρ H) D o) G H σ ρ := by
  have E' := E.rebase
  refine ⟨E'.sub, E'.len, fun i t h => ?_, E'.dis⟩
  obtain ⟨x, h1, h2⟩ := E'.slot i t h
  refine ⟨x, h1, ?_⟩
  cases t with
  | no => trivial
  | dat d => exact h2
  | lv ds =>
    obtain ⟨l, xs, q1, q2, q3, q4, q5⟩ := h2
    exact ⟨l, xs, q1, q2, q3, by rw [upd_ne fun z => by subst z; rw [hD] at q2; cases q2]; exact q4, q5⟩
  | cel u n =>
    obtain ⟨q1, ⟨xs, q2, q3⟩, q4, q5⟩ := h2
    exact ⟨q1, ⟨xs, q2, q3⟩, q4, by rw [upd_ne fun z => by subst z; rw [hD] at q2; cases q2]; exact q5⟩
theorem el_lc2 {α β : Type} {l : List α} {enc : α → PyData} {li : α → List β} {enc2 : β → PyData} {r : α → β → PyData} {wi wi1 : TI} {g g1 : TG} {vs vs1 js js1 : List Nat} (hi : EvI K wi ρ (l.map enc)) (hj : ∀ j ∈ js, j ∈ vs) (hj1 : ∀ j ∈ js1, j ∈ vs1)
    (hl : (l.flatMap fun a => (li a).map (r a)).length ≤ 1000)
    (ht : ∀ a ∈ l, ∃ ρ', EvG K g (wipeR ρ vs) (enc a) ρ' js ∧ EvI K wi1 ρ' ((li a).map enc2) ∧ ∀ b ∈ li a, ∃ ρ'', EvG K g1 (wipeR ρ' vs1) (enc2 b) ρ'' js1 ∧ EvD K te ρ'' (r a b)) :
    EvL K (tLc2 wi g tYes wi1 g1 tYes te vs vs1) ρ (l.flatMap fun a => (li a).map (r a)) := fun B G H σ Q E q => hi B G H σ _ E fun J G2 H2 x w => by
  intro D hD
  have hlen : (l.map enc).length = l.length := List.length_map _
  have gD2 : G2 D = none := x.freshG hD
  have E3 := (E.ext x).rebaseD (D := D) (o := .lst []) hD
  have bD : upd (mask σ ρ H2) D (.lst []) D ≠ none := by rw [upd_same]; exact fun n => nomatch n
  refine ⟨fun i m H3 => m = l.length - i ∧ i ≤ l.length ∧ ∃ G3 acc, Ext G2 G3 H2 H3 ∧ G3 D = none ∧ H3 D = some (.lst acc) ∧ DpAll K G3 acc ((l.take i).flatMap fun a => (li a).map (r a)), ⟨l.length, by simp, Nat.zero_le _, G2, [], (Ext.refl x.sub).newH hD, gD2, upd_same, by simp; exact .nil⟩, ?_⟩
  rintro i m H3 ⟨rfl, hil, G3, acc, y, gD, hDl, hacc⟩
  by_cases hlt : i < l.length
  · refine .inr ⟨w.go i H3 (by rw [hlen]; exact hlt) (y.ex.trans y.sub), fun H' => ∃ G4 acc', Ext G2 G4 H2 H' ∧ G4 D = none ∧ H' D = some (.lst acc') ∧ DpAll K G4 acc' ((l.take (i + 1)).flatMap fun a => (li a).map (r a)), fun H' hn => ⟨l.length - (i + 1), by omega, rfl, hlt, hn⟩, fun u H' hy => ?_⟩
    obtain ⟨G', d0, z, hd0, hdp⟩ := w.yld i H3 u H' (by rw [hlen]; exact hlt) (y.ex.trans y.sub) hy
    have hd1 : d0 = enc l[i] := by
      rw [List.getElem?_map, List.getElem?_eq_getElem hlt] at hd0
      exact (Option.some.inj hd0).symm
    subst hd1
    obtain ⟨G'', z1, z2⟩ := Ext.widen y.ex y.sub z
    obtain ⟨ρ', hg, hi1, hin⟩ := ht l[i] (List.getElem_mem hlt)
    have etake : l.take (i + 1) = l.take i ++ [l[i]] := by rw [List.take_add_one, List.getElem?_eq_getElem hlt]; rfl
    generalize l[i] = a at *
    have E1 := ((E3.ext y).ext z1).wipe vs
    refine hg _ G'' H' (wipe σ vs) u _ E1 (dp_mono z2 _ _ hdp) fun σ2 E2 hw => ⟨by rw [hw vs hj, wipe_wipe], ?_⟩
    simp only [tYes, if_true]
    have dG : G'' D = none := z1.sep D gD (by rw [hDl]; exact fun n => nomatch n)
    have dH : H' D = some (.lst acc) := z1.on _ _ hDl
    have hlen2 : ((li a).map enc2).length = (li a).length := List.length_map _
    refine hi1 _ G'' H' σ2 _ E2 fun J1 G4 H4 z4 w1 => ?_
    have E4 := E2.ext z4
    have dG4 : G4 D = none := z4.sep D dG (by rw [dH]; exact fun n => nomatch n)
    have dH4 : H4 D = some (.lst acc) := z4.on _ _ dH
    refine ⟨fun j k H => k = (li a).length - j ∧ j ≤ (li a).length ∧ ∃ G5 acc5, Ext G2 G5 H2 H ∧ Ex G4 G5 ∧ (∀ c o, c ≠ D → H4 c = some o → H c = some o) ∧ (∀ c, G4 c = none → H4 c ≠ none → G5 c = none) ∧ G5 D = none ∧ H D = some (.lst acc5) ∧
      DpAll K G5 acc5 (((l.take i).flatMap fun a => (li a).map (r a)) ++ ((li a).take j).map (r a)), ⟨(li a).length, by simp, Nat.zero_le _, G4, acc, (y.trans z1).trans z4, Evl.Ex.refl _, fun _ _ _ h => h, fun _ h _ => h, dG4, dH4, ?_⟩, ?_⟩
    · simp only [List.take_zero, List.map_nil, List.append_nil]
      exact dpa_mono (z1.ex.trans z4.ex) _ _ hacc
    rintro j k H5 ⟨rfl, hjl, G5, acc5, y5, e5, on5, sep5, dG5, dH5, hacc5⟩
    have eg5 : Ex G4 H5 := e5.trans y5.sub
    by_cases hjt : j < (li a).length
    · refine .inr ⟨w1.go j H5 (by rw [hlen2]; exact hjt) eg5, fun H => ∃ G5 acc5, Ext G2 G5 H2 H ∧ Ex G4 G5 ∧ (∀ c o, c ≠ D → H4 c = some o → H c = some o) ∧ (∀ c, G4 c = none → H4 c ≠ none → G5 c = none) ∧ G5 D = none ∧ H D = some (.lst acc5) ∧
        DpAll K G5 acc5 (((l.take i).flatMap fun a => (li a).map (r a)) ++ ((li a).take (j + 1)).map (r a)), fun H hn => ⟨(li a).length - (j + 1), by omega, rfl, hjt, hn⟩, fun u2 H6 hy2 => ?_⟩
      obtain ⟨G6', d6, z6, hd6, hdp6⟩ := w1.yld j H5 u2 H6 (by rw [hlen2]; exact hjt) eg5 hy2
      have hd7 : d6 = enc2 (li a)[j] := by
        rw [List.getElem?_map, List.getElem?_eq_getElem hjt] at hd6
        exact (Option.some.inj hd6).symm
      subst hd7
      obtain ⟨G6, x6, x6'⟩ := Ext.widen e5 y5.sub z6
      obtain ⟨ρ'', hg1, hte⟩ := hin (li a)[j] (List.getElem_mem hjt)
      have E5 := ((E4.skip bD e5 y5.sub on5 sep5).ext x6).wipe vs1
      refine hg1 _ G6 H6 (wipe σ2 vs1) u2 _ E5 (dp_mono x6' _ _ hdp6) fun σ3 E6 hw1 => ⟨by rw [hw1 vs1 hj1, wipe_wipe], ?_⟩
      simp only [tYes, if_true]
      have dG6 : G6 D = none := x6.sep D dG5 (by rw [dH5]; exact fun n => nomatch n)
      have dH6 : H6 D = some (.lst acc5) := x6.on _ _ dH5
      refine hte _ G6 H6 σ3 _ E6 fun v G7 H7 z7 hv => ?_
      have dG7 : G7 D = none := z7.sep D dG6 (by rw [dH6]; exact fun n => nomatch n)
      have dH7 : H7 D = some (.lst acc5) := z7.on _ _ dH6
      have x7 := x6.trans z7
      have etake2 : (li a).take (j + 1) = (li a).take j ++ [(li a)[j]] := by rw [List.take_add_one, List.getElem?_eq_getElem hjt]; rfl
      refine ⟨acc5, dH7, ?_, G7, acc5 ++ [v], ?_, e5.trans x7.ex, fun c o hc e => ?_, fun c h1 h2 => ?_, dG7, upd_same, ?_⟩
      · have h1 := dpa_len hacc5
        have h2 : ((l.take i).flatMap fun a => (li a).map (r a)).length + ((li a).take j).length ≤ (l.flatMap fun a => (li a).map (r a)).length := by
          have e1 : (l.flatMap fun a => (li a).map (r a)) = ((l.take (i + 1)).flatMap fun a => (li a).map (r a)) ++ ((l.drop (i + 1)).flatMap fun a => (li a).map (r a)) := by rw [← List.flatMap_append, List.take_append_drop]
          rw [e1, etake, List.flatMap_append, List.length_append, List.length_append]
          have : ((li a).take j).length ≤ (List.flatMap (fun a => (li a).map (r a)) [a]).length := by
            simp
            omega
          omega
        rw [List.length_append, List.length_map] at h1
        exact small1000 (by omega)
      · have t := y5.trans x7
        refine ⟨t.ex, fun c o e => ?_, fun c o e => ?_, t.sep⟩
        · rw [upd_ne fun n => by subst n; rw [dG7] at e; cases e]
          exact t.sub c o e
        · rw [upd_ne fun n => by subst n; rw [hD] at e; cases e]
          exact t.on c o e
      · rw [upd_ne hc]
        exact x7.on _ _ (on5 c o hc e)
      · by_cases hc : c = D
        · subst hc; exact dG7
        · refine x7.sep c (sep5 c h1 h2) fun n => ?_
          cases q4 : H4 c with
          | none => exact h2 q4
          | some o => rw [on5 c o hc q4] at n; cases n
      · rw [etake2, List.map_append, ← List.append_assoc]
        exact dpa_append (dpa_mono x7.ex _ _ hacc5) (.cons hv .nil)
    · have hje : j = (li a).length := by omega
      subst hje
      refine .inl ⟨by have := w1.stop H5 eg5; rw [hlen2] at this; exact this, G5, acc5, y5, dG5, dH5, ?_⟩
      rw [List.take_of_length_le (Nat.le_refl _)] at hacc5
      rw [etake, List.flatMap_append]
      simpa using hacc5
  · have hie : i = l.length := by omega
    subst hie
    refine .inl ⟨by have := w.stop H3 (y.ex.trans y.sub); rw [hlen] at this; exact this, ?_⟩
    rw [List.take_of_length_le (Nat.le_refl _)] at hacc
    exact q D acc G3 H3 (x.trans y) (x.freshH hD) gD hDl hacc
end
section
variable {K : PySem.W.Frag} {ρ ρ' : Ro} {tt : TT} {t u : TS} {RT : Ro → PyData → Prop} {NX NX' BK CT : Ro → Prop}
theorem r_mono (h : Runs K t ρ RT NX BK CT) (k : ∀ z, NX z → NX' z) : Runs K t ρ RT NX' BK CT := fun G0 H0 G H σ D E x rt nx bk ct => h G0 H0 G H σ D E x rt (fun ρ' G2 H2 σ2 m => nx ρ' G2 H2 σ2 (k ρ' m)) bk ct
/-- if b: (it ends) .. the rest -/
theorem r_guard {b : Bool} (h : EvT K tt ρ b) (h1 : b = true → Runs K t ρ RT (fun _ => False) BK CT) (h2 : b = false → Runs K u ρ RT NX BK CT) : Runs K (tSeq (tIfS tt t tNext) u) ρ RT NX BK CT :=
  r_seq (M := fun z => z = ρ ∧ b = false) (r_if h (fun hb => r_mono (h1 hb) fun _ z => z.elim) fun hb => r_next ⟨rfl, hb⟩) fun z hz => by
    obtain ⟨rfl, hb⟩ := hz
    exact h2 hb
end
end My
/-! the calculus: the urn, a list in slot 0 that callees change -/
namespace My
open PySem PySem.Spec PyProof.Rows L2
open Evl (Ex)
structure ExtU (u : Addr) (G G2 H H2 : Hp) : Prop where
  ex : Ex G G2
  sub : Ex G2 H2
  on : ∀ a o, a ≠ u → H a = some o → H2 a = some o
  sep : ∀ a, G a = none → H a ≠ none → G2 a = none
theorem Ext.u {u : Addr} {G G2 H H2 : Hp} (x : Ext G G2 H H2) : ExtU u G G2 H H2 := ⟨x.ex, x.sub, fun a o _ h => x.on a o h, x.sep⟩
def UrnNow (K : PySem.W.Frag) (G H : Hp) (u : Addr) (n : Nat) : Prop := ∃ xs ds, H u = some (.lst xs) ∧ DpAll K G xs ds ∧ UrnOk n ds
theorem UrnOk.mono {n m : Nat} {ds : List PyData} (h : UrnOk n ds) (hm : n ≤ m) : UrnOk m ds := by
  obtain ⟨a, b, c, h1, h2, h3, h4, h5⟩ := h
  exact ⟨a, b, c, h1, h2, h3, h4, by omega⟩
section
variable (K : PySem.W.Frag)
def EvU (te : TE) (ρt : Ro) (k : Nat) (P : PyData → Prop) : Prop := ∀ (n : Nat) (u : Addr) (ds : List PyData) (B G H : Hp) (σ : L2.St) (Q : VK), EnvG K B G H σ (.cel u ds :: ρt) → UrnOk n ds → n + k ≤ 1000000 →
  (∀ v d G2 H2, P d → ExtU u G G2 H H2 → UrnNow K G2 H2 u (n + k) → Dp K G2 v d → Q v H2) → te σ H Q
def EvUL (te : TE) (ρt : Ro) (k : Nat) (P : List PyData → Prop) : Prop := ∀ (n : Nat) (u : Addr) (ds : List PyData) (B G H : Hp) (σ : L2.St) (Q : VK), EnvG K B G H σ (.cel u ds :: ρt) → UrnOk n ds → n + k ≤ 1000000 →
  (∀ p xs es G2 H2, P es → ExtU u G G2 H H2 → UrnNow K G2 H2 u (n + k) → H p = none → G2 p = none → H2 p = some (.lst xs) → DpAll K G2 xs es → Q (.ref p) H2) → te σ H Q
def EvTU (tt : TT) (ρt : Ro) (k : Nat) : Prop := ∀ (n : Nat) (u : Addr) (ds : List PyData) (B G H : Hp) (σ : L2.St) (Q : Bool → Hp → Prop), EnvG K B G H σ (.cel u ds :: ρt) → UrnOk n ds → n + k ≤ 1000000 →
  (∀ b G2 H2, ExtU u G G2 H H2 → UrnNow K G2 H2 u (n + k) → Q b H2) → tt σ H Q
end
section
variable {K : PySem.W.Frag} {ρt ρw : Ro} {ta tb te : TE} {c d : PyData} {ds es is : List PyData} {i j k k1 k2 n : Nat} {u p : Addr} {B G G2 G3 H H2 H3 : Hp} {σ : L2.St} {P P1 P2 : PyData → Prop} {o : HO}
theorem ExtU.trans (a : ExtU u G G2 H H2) (hu : H u ≠ none → H2 u ≠ none) (b : ExtU u G2 G3 H2 H3) : ExtU u G G3 H H3 :=
  ⟨a.ex.trans b.ex, b.sub, fun c o hc h => b.on c o hc (a.on c o hc h), fun c h1 h2 => b.sep c (a.sep c h1 h2) fun e => by
    by_cases hc : c = u
    · subst hc; exact hu h2 e
    · cases q : H c with
      | none => exact h2 q
      | some o => rw [a.on c o hc q] at e; cases e⟩
theorem ExtU.new (a : ExtU u G G2 H H2) (hu : H2 u ≠ none) (h : H2 p = none) : ExtU u G (upd G2 p o) H (upd H2 p o) := by
  have g2 : G2 p = none := Evl.fresh_back a.sub h
  have hp : p ≠ u := fun e => by subst e; exact hu h
  refine ⟨a.ex.trans (Evl.Ex.new g2), fun c w e => ?_, fun c w hc e => ?_, fun c h1 h2 => ?_⟩
  · by_cases hc : c = p
    · subst hc; rw [upd_same] at e ⊢; exact e
    · rw [upd_ne hc] at e ⊢; exact a.sub c w e
  · have q := a.on c w hc e
    rw [upd_ne fun z => by subst z; rw [h] at q; cases q]
    exact q
  · have hc : c ≠ p := fun e => by
      subst e
      cases q : H c with
      | none => exact h2 q
      | some w => rw [a.on c w hp q] at h; cases h
    rw [upd_ne hc]
    exact a.sep c h1 h2
theorem EnvG.now (E : EnvG K B G H σ (.cel u ds :: ρt)) (h : UrnOk n ds) : UrnNow K G H u n := by
  obtain ⟨x, hx, q1, ⟨xs, q2, q3⟩, q4, q5⟩ := E.slot 0 _ rfl
  exact ⟨xs, ds, q2, q3, h⟩
theorem EnvG.uG (E : EnvG K B G H σ (.cel u ds :: ρt)) : G u = none := (E.slot 0 _ rfl).choose_spec.2.2.2.1
theorem EnvG.uB (E : EnvG K B G H σ (.cel u ds :: ρt)) : B u = none := (E.slot 0 _ rfl).choose_spec.2.2.2.2
theorem EnvG.uH (E : EnvG K B G H σ (.cel u ds :: ρt)) : H u ≠ none := by
  obtain ⟨x, hx, q1, ⟨xs, q2, q3⟩, q4, q5⟩ := E.slot 0 _ rfl
  rw [q2]
  exact fun h => nomatch h
theorem EnvG.at0 (E : EnvG K B G H σ (.cel u ds :: ρt)) : σ[0]? = some (some (.ref u)) := by
  obtain ⟨x, hx, q1, _⟩ := E.slot 0 _ rfl
  rw [hx, q1]
theorem EnvG.extU {xs : List V} (E : EnvG K B G H σ (.cel u ds :: ρt)) (x : ExtU u G G2 H H2) (h2 : H2 u = some (.lst xs)) (hd : DpAll K G2 xs es) : EnvG K B G2 H2 σ (.cel u es :: ρt) := by
  refine ⟨x.sub, E.len, fun i s h => ?_, fun i j s t l hij h1 h2 c1 c2 e1 e2 => ?_⟩
  · cases i with
    | zero =>
      cases h
      exact ⟨_, E.at0, rfl, ⟨xs, h2, hd⟩, x.sep u E.uG E.uH, E.uB⟩
    | succ i =>
      obtain ⟨y, h3, h4⟩ := E.slot (i + 1) s h
      refine ⟨y, h3, ?_⟩
      cases s with
      | no => trivial
      | dat d => obtain ⟨v, q1, q2⟩ := h4; exact ⟨v, q1, dp_mono x.ex _ _ q2⟩
      | lv ds =>
        obtain ⟨l, ys, q1, q2, q3, q4, q5⟩ := h4
        have ne : l ≠ u := fun z => by
          subst z
          subst q1
          exact E.dis 0 (i + 1) _ _ l (by omega) rfl h rfl rfl E.at0 h3
        exact ⟨l, ys, q1, x.on _ _ ne q2, x.sep l q3 (by rw [q2]; exact fun z => nomatch z), q4, dpa_mono x.ex _ _ q5⟩
      | cel w es =>
        obtain ⟨q1, ⟨ys, q2, q3⟩, q4, q5⟩ := h4
        have ne : w ≠ u := fun z => by
          subst z
          subst q1
          exact E.dis 0 (i + 1) _ _ w (by omega) rfl h rfl rfl E.at0 h3
        exact ⟨q1, ⟨ys, x.on _ _ ne q2, dpa_mono x.ex _ _ q3⟩, x.sep w q4 (by rw [q2]; exact fun z => nomatch z), q5⟩
  · have g : ∀ {k : Nat} {t : SD}, (SD.cel u es :: ρt)[k]? = some t → t.cell = true → ∃ t', (SD.cel u ds :: ρt)[k]? = some t' ∧ t'.cell = true := fun {k t} q c => by
      cases k with
      | zero => exact ⟨_, rfl, rfl⟩
      | succ k => exact ⟨t, q, c⟩
    obtain ⟨s', hs, cs⟩ := g h1 c1
    obtain ⟨t', ht, ct⟩ := g h2 c2
    exact E.dis i j s' t' l hij hs ht cs ct e1 e2
/-- behind an urn's step -/
theorem EnvG.stepU (E : EnvG K B G H σ (.cel u ds :: ρt)) (x : ExtU u G G2 H H2) (h : UrnNow K G2 H2 u n) : ∃ es, EnvG K B G2 H2 σ (.cel u es :: ρt) ∧ UrnOk n es := by
  obtain ⟨xs, es, h1, h2, h3⟩ := h
  exact ⟨es, E.extU x h1 h2, h3⟩
theorem UrnNow.ne (h : UrnNow K G H u n) : H u ≠ none := by
  obtain ⟨xs, es, h1, _⟩ := h
  rw [h1]
  exact fun h => nomatch h
theorem UrnNow.ext (h : UrnNow K G H u n) (x : Ext G G2 H H2) : UrnNow K G2 H2 u n := by
  obtain ⟨xs, es, h1, h2, h3⟩ := h
  exact ⟨xs, es, x.on _ _ h1, dpa_mono x.ex _ _ h2, h3⟩
theorem UrnNow.newU (h : UrnNow K G H u n) (hp : H p = none) : UrnNow K (upd G p o) (upd H p o) u n := by
  obtain ⟨xs, es, h1, h2, h3⟩ := h
  have ne : u ≠ p := fun z => by subst z; rw [hp] at h1; cases h1
  by_cases hg : Ex G H
  · exact ⟨xs, es, by rw [upd_ne ne]; exact h1, dpa_mono (Evl.Ex.new (Evl.fresh_back hg hp)) _ _ h2, h3⟩
  · refine ⟨xs, es, by rw [upd_ne ne]; exact h1, ?_, h3⟩
    obtain ⟨a, b, c, rfl, _⟩ := h3
    have e := dpa_ints (ns := [a, b, c]) h2
    subst e
    exact ints_dpa [a, b, c]
theorem Ext.transU {G0 H0 : Hp} (a : Ext G0 G H0 H) (hB : H0 u = none) (b : ExtU u G G2 H H2) : Ext G0 G2 H0 H2 :=
  ⟨a.ex.trans b.ex, b.sub, fun c o h => b.on c o (fun z => by subst z; rw [hB] at h; cases h) (a.on c o h), fun c h1 h2 => b.sep c (a.sep c h1 h2) fun e => by
    cases q : H0 c with
    | none => exact h2 q
    | some o => rw [a.on c o q] at e; cases e⟩
/-! expressions -/
theorem eu_of (h : ∀ u ds, EvD K te (.cel u ds :: ρt) d) (p : P d) : EvU K te ρt 0 P := fun n u ds B G H σ Q E hu hk q => h u ds B G H σ Q E fun v G2 H2 x hv => q v d G2 H2 p x.u ((E.now hu).ext x) hv
theorem eu_mono (h : EvU K te ρt k P1) (p : ∀ d, P1 d → P2 d) : EvU K te ρt k P2 := fun n u ds B G H σ Q E hu hk q => h n u ds B G H σ Q E hu hk fun v d G2 H2 a x y hv => q v d G2 H2 (p d a) x y hv
/-- an operation on a datum and a drawn one -/
theorem eu_op {r : R2} (ha : ∀ u ds, EvD K ta (.cel u ds :: ρt) c) (hb : EvU K tb ρt k P1) (h : ∀ d, P1 d → ∃ e, P2 e ∧ ∀ (G H : Hp) (x y : V) (Q : VK), Ex G H → Dp K G x c → Dp K G y d → (∀ v G2 H2, Ext G G2 H H2 → Dp K G2 v e → Q v H2) → r x y H Q) : EvU K (tOp r ta tb) ρt k P2 := fun n u ds B G H σ Q E hu hk q =>
  ha u ds B G H σ _ E fun v G2 H2 x hv => hb n u ds B G2 H2 σ _ (E.ext x) hu hk fun w d G3 H3 p y nw hw => by
    obtain ⟨e, pe, hr⟩ := h d p
    refine hr G3 H3 v w Q y.sub (dp_mono y.ex _ _ hv) hw fun z G4 H4 a hz => ?_
    exact q z e G4 H4 pe (((x.u).trans (fun h => (E.ext x).uH) y).trans (fun _ => nw.ne) a.u) (nw.ext a) hz
theorem eu_add1 {m : Int} (ha : ∀ u ds, EvD K ta (.cel u ds :: ρt) (.int m)) (hb : EvU K tb ρt k fun d => ∃ r : Int, d = .int r ∧ 0 ≤ r ∧ r < n) : EvU K (tOp (rAddA K) ta tb) ρt k fun d => ∃ r : Int, d = .int (m + r) ∧ 0 ≤ r ∧ r < n :=
  eu_op ha hb fun d ⟨r, e, h1, h2⟩ => ⟨_, ⟨r, rfl, h1, h2⟩, fun G H x y Q s p1 p2 q => by
    subst e
    exact .inl ⟨m, r, dp_int p1, dp_int p2, q _ G H (.refl s) (.int _)⟩⟩
theorem eu_ixL (ha : ∀ u ds, EvD K ta (.cel u ds :: ρt) (.list es)) (hb : EvU K tb ρt k fun d => ∃ r : Int, d = .int r ∧ 0 ≤ r ∧ r < es.length) : EvU K (tOp (rIx K) ta tb) ρt k fun d => d ∈ es :=
  eu_op ha hb fun d ⟨r, e, h1, h2⟩ => by
    have hr : r.toNat < es.length := by omega
    refine ⟨es[r.toNat], List.getElem_mem hr, fun G H x y Q s p1 p2 q => ?_⟩
    subst e
    obtain ⟨a, xs, rfl, a1, a2⟩ := dp_lst p1
    obtain ⟨v, h3, h4⟩ := dpa_get a2 (List.getElem?_eq_getElem hr)
    refine .inl ⟨a, xs, r, v, rfl, dp_int p2, Evl.ex_l s a1, ?_, q v G H (.refl s) h4⟩
    have e2 : r = ((r.toNat : Nat) : Int) := by omega
    rw [e2]
    exact atI_nat h3
theorem eu_tupleL {PL : List PyData → Prop} (ha : EvUL K ta ρt k PL) : EvU K (tCB (rTupQ K) (tCons ta tNil)) ρt k fun d => ∃ es, d = .tuple es ∧ PL es := fun n u ds B G H σ Q E hu hk q => ha n u ds B G H σ _ E hu hk fun p xs es G2 H2 pl x nw h1 h2 h3 h4 => by
  refine ⟨p, xs, rfl, .inl ⟨.inl (.inl h3), fun l hl => ?_⟩⟩
  exact q _ (.tuple es) _ _ ⟨es, rfl, pl⟩ (x.new nw.ne hl) (nw.newU hl) (.tup (.inl (.inl upd_same)) (dpa_mono (Evl.Ex.new (Evl.fresh_back x.sub hl)) _ _ h4))
theorem etu_eq0 {m : Int} (h : EvU K te ρt k fun d => ∃ r : Int, d = .int r) : EvTU K (tTest (tOp (rEqD K) te (tC (.int m)))) ρt k := fun n u ds B G H σ Q E hu hk q => h n u ds B G H σ _ E hu hk fun v d G2 H2 p x nw hv => by
  obtain ⟨r, rfl⟩ := p
  exact ⟨.int r, .int m, dp_mono x.sub _ _ hv, .int m, shaped_int r, shaped_int m, _, rfl, q _ G2 H2 x nw⟩
theorem eul_lc {wi : TI} {vs : List Nat} (hi : ∀ u ds, EvI K wi (.cel u ds :: ρt) is) (hw : ∀ u ds, wipeR (.cel u ds :: ρt) vs = .cel u ds :: ρw) (hj : j + 1 ∈ vs) (hl : is.length ≤ 1000)
    (ht : ∀ d ∈ is, EvU K te (ρw.set j (.dat d)) k P) : EvUL K (tLc wi (gName (j + 1)) tYes te vs) ρt (is.length * k) fun es => es.length = is.length ∧ ∀ e ∈ es, P e := fun n u ds B G H σ Q E hu hk q => hi u ds B G H σ _ E fun J G2 H2 x w => by
  intro D hD
  have E2 := E.ext x
  have hDu : D ≠ u := fun z => by subst z; exact E2.uH hD
  refine ⟨fun i m H3 => m = is.length - i ∧ i ≤ is.length ∧ ∃ G3 acc es, ExtU u G2 G3 H2 H3 ∧ UrnNow K G3 H3 u (n + i * k) ∧ G3 D = none ∧ H3 D = some (.lst acc) ∧ DpAll K G3 acc es ∧ es.length = i ∧ ∀ e ∈ es, P e,
    ⟨is.length, by simp, Nat.zero_le _, G2, [], [], ((Ext.refl x.sub).newH hD).u, ?_, x.freshG hD, upd_same, .nil, rfl, fun _ h => nomatch h⟩, ?_⟩
  · obtain ⟨xs, es, h1, h2, h3⟩ := E2.now hu
    exact ⟨xs, es, by rw [upd_ne hDu.symm]; exact h1, h2, by simpa using h3⟩
  rintro i m H3 ⟨rfl, hil, G3, acc, es, y, nw, gD, hDl, hacc, hel, hP⟩
  have eg : Ex G2 H3 := y.ex.trans y.sub
  by_cases hlt : i < is.length
  · refine .inr ⟨w.go i H3 hlt eg, fun H' => ∃ G3 acc es, ExtU u G2 G3 H2 H' ∧ UrnNow K G3 H' u (n + (i + 1) * k) ∧ G3 D = none ∧ H' D = some (.lst acc) ∧ DpAll K G3 acc es ∧ es.length = i + 1 ∧ ∀ e ∈ es, P e, fun H' hn => ⟨is.length - (i + 1), by omega, rfl, hlt, hn⟩, fun v H' hy => ?_⟩
    obtain ⟨G', d0, z, hd0, hdp⟩ := w.yld i H3 v H' hlt eg hy
    have hmem : d0 ∈ is := List.mem_of_getElem? hd0
    obtain ⟨G'', z1, z2⟩ := Ext.widen y.ex y.sub z
    obtain ⟨ds3, E3, ok3⟩ := E2.stepU y nw
    have E4 := ((E3.ext z1).wipe vs)
    rw [hw] at E4
    show wipe ((wipe σ vs).set (j + 1) (some v)) vs = wipe σ vs ∧ _
    refine ⟨by rw [wipe_set hj, wipe_wipe], ?_⟩
    simp only [tYes, if_true]
    have E5 : EnvG K B G'' H' ((wipe σ vs).set (j + 1) (some v)) (.cel u ds3 :: ρw.set j (.dat d0)) := E4.setD (i := j + 1) (dp_mono z2 _ _ hdp)
    have dG : G'' D = none := z1.sep D gD (by rw [hDl]; exact fun n => nomatch n)
    have dH : H' D = some (.lst acc) := z1.on _ _ hDl
    have hcost : n + i * k + k ≤ 1000000 := by
      have : (i + 1) * k ≤ is.length * k := Nat.mul_le_mul_right k hlt
      rw [Nat.succ_mul] at this
      omega
    refine ht d0 hmem (n + i * k) u ds3 B G'' H' _ _ E5 ok3 hcost fun v2 d2 G5 H5 p2 x5 nw5 hv2 => ?_
    have dG5 : G5 D = none := x5.sep D dG (by rw [dH]; exact fun n => nomatch n)
    have dH5 : H5 D = some (.lst acc) := x5.on _ _ hDu dH
    have t := (y.trans (fun _ => nw.ne) z1.u).trans (fun _ => E5.uH) x5
    refine ⟨acc, dH5, small1000 (by rw [dpa_len hacc]; omega), G5, acc ++ [v2], es ++ [d2], ⟨t.ex, fun a o e => ?_, fun a o ha e => ?_, t.sep⟩, ?_, dG5, upd_same, dpa_append (dpa_mono (z1.ex.trans x5.ex) _ _ hacc) (.cons hv2 .nil), by simp [hel], fun e he => ?_⟩
    · rw [upd_ne fun n => by subst n; rw [dG5] at e; cases e]
      exact t.sub a o e
    · rw [upd_ne fun n => by subst n; rw [hD] at e; cases e]
      exact t.on a o ha e
    · obtain ⟨xs5, es5, h1, h2, h3⟩ := nw5
      refine ⟨xs5, es5, by rw [upd_ne hDu.symm]; exact h1, h2, ?_⟩
      rw [Nat.succ_mul, ← Nat.add_assoc]
      exact h3
    · rcases List.mem_append.mp he with he | he
      · exact hP e he
      · rw [List.mem_singleton.mp he]; exact p2
  · have hie : i = is.length := by omega
    subst hie
    refine .inl ⟨w.stop H3 eg, ?_⟩
    exact q D acc es G3 H3 ⟨hel, hP⟩ ((x.u).trans (fun _ => E2.uH) y) nw (x.freshH hD) gD hDl hacc
/-! calls -/
def spU (K : PySem.W.Frag) {α : Type} (enc : α → List PyData) (Pre : α → Prop) (cost : α → Nat) (R : α → PyData → Prop) : Sp := fun vs H Q _ => ∃ (a : α) (G : Hp) (u : Addr) (n : Nat) (ds : List PyData) (xs us : List V), vs = .ref u :: us ∧ Ex G H ∧ G u = none ∧ H u = some (.lst xs) ∧ DpAll K G xs ds ∧ UrnOk n ds ∧
  n + cost a ≤ 1000000 ∧ DpAll K G us (enc a) ∧ Pre a ∧ ∀ v d G2 H2, R a d → ExtU u G G2 H H2 → UrnNow K G2 H2 u (n + cost a) → Dp K G2 v d → Q v H2
theorem eu_call {α : Type} {enc : α → List PyData} {Pre : α → Prop} {cost : α → Nat} {R : α → PyData → Prop} {tr : TA} {E0 : XK} (a : α) (ha : ∀ u ds, EvA K tr (.cel u ds :: ρt) (enc a)) (hp : Pre a) : EvU K (tCall (spU K enc Pre cost R) [] E0 (tCons (tVar 0) tr)) ρt (cost a) (R a) := fun n u ds B G H σ Q E hu hk q => by
  refine ⟨.ref u, E.at0, ha u ds B G H σ _ E fun vs G2 H2 x hv => ?_⟩
  have E2 := E.ext x
  obtain ⟨y, hy, q1, ⟨xs, q2, q3⟩, q4, q5⟩ := E2.slot 0 _ rfl
  refine ⟨a, G2, u, n, ds, xs, vs, by rw [List.append_nil], x.sub, q4, q2, q3, hu, hk, hv, hp, fun v d G3 H3 hr z nw hd => ?_⟩
  exact q v d G3 H3 hr ((x.u).trans (fun _ => E2.uH) z) nw hd
/-- a pure def, its last argument drawn -/
theorem eu_call2 {α : Type} {enc : α → List PyData} {Pre : α → Prop} {R : α → PyData → Prop} {E0 : XK} (ha : ∀ u ds, EvD K ta (.cel u ds :: ρt) c) (hb : EvU K tb ρt k P1) (h : ∀ d, P1 d → ∃ a : α, enc a = [c, d] ∧ Pre a ∧ ∀ e, R a e → P2 e) : EvU K (tCall (spT K enc Pre R) [] E0 (tCons ta (tCons tb tNil))) ρt k P2 := fun n u ds B G H σ Q E hu hk q =>
  ha u ds B G H σ _ E fun v G2 H2 x hv => hb n u ds B G2 H2 σ _ (E.ext x) hu hk fun w d G3 H3 p y nw hw => by
    obtain ⟨a, h1, h2, h3⟩ := h d p
    refine ⟨a, G3, y.sub, by rw [h1]; exact .cons (dp_mono y.ex _ _ hv) (.cons hw .nil), h2, fun z e G4 H4 hr b hz => ?_⟩
    exact q z e G4 H4 (h3 e hr) (((x.u).trans (fun _ => (E.ext x).uH) y).trans (fun _ => nw.ne) b.u) (nw.ext b) hz
end
/-! statements -/
section
variable {K : PySem.W.Frag} {ρt : Ro} {te : TE} {tt : TT} {t w : TS} {ds : List PyData} {i j k k1 k2 n : Nat} {u : Addr} {P P1 P2 : PyData → Prop} {RT : Ro → PyData → Prop} {NX BK CT : Ro → Prop}
theorem r_setU (h : EvU K te ρt k P) (hu : UrnOk n ds) (hk : n + k ≤ 1000000) (q : ∀ d es, P d → UrnOk (n + k) es → NX ((SD.cel u es :: ρt).set i (.dat d))) : Runs K (tAsg te (gName i)) (.cel u ds :: ρt) RT NX BK CT := fun G0 H0 G H σ D E x rt nx bk ct => h n u ds H0 G H σ _ E hu hk fun v d G2 H2 p y nw hd => by
  obtain ⟨es, E2, ok⟩ := E.stepU y nw
  exact nx _ G2 H2 _ (q d es p ok) (E2.setD hd) (x.transU E.uB y)
theorem r_retU (h : EvU K te ρt k P) (hu : UrnOk n ds) (hk : n + k ≤ 1000000) (q : ∀ d es, P d → UrnOk (n + k) es → RT (.cel u es :: ρt) d) : Runs K (tRet te) (.cel u ds :: ρt) RT NX BK CT := fun G0 H0 G H σ D E x rt nx bk ct => h n u ds H0 G H σ _ E hu hk fun v d G2 H2 p y nw hd => by
  obtain ⟨es, E2, ok⟩ := E.stepU y nw
  exact rt _ d v G2 H2 σ (q d es p ok) E2 (x.transU E.uB y) hd
theorem r_parU {t1 t2 : TE} (h1 : EvU K t1 ρt k1 P1) (h2 : EvU K t2 ρt k2 P2) (hu : UrnOk n ds) (hk : n + (k1 + k2) ≤ 1000000) (q : ∀ d1 d2 es, P1 d1 → P2 d2 → UrnOk (n + (k1 + k2)) es → NX (((SD.cel u es :: ρt).set i (.dat d1)).set j (.dat d2))) :
    Runs K (tPar i j (tCons t1 (tCons t2 tNil))) (.cel u ds :: ρt) RT NX BK CT := fun G0 H0 G H σ D E x rt nx bk ct => h1 n u ds H0 G H σ _ E hu (by omega) fun v d G2 H2 p y nw hd => by
  obtain ⟨es, E2, ok⟩ := E.stepU y nw
  refine h2 (n + k1) u es H0 G2 H2 σ _ E2 ok (by omega) fun v2 d2 G3 H3 p2 y2 nw2 hd2 => ?_
  obtain ⟨es3, E3, ok3⟩ := E2.stepU y2 nw2
  rw [Nat.add_assoc] at ok3
  exact ⟨v, v2, rfl, nx _ G3 H3 _ (q d d2 es3 p p2 ok3) ((E3.setD (dp_mono y2.ex _ _ hd)).setD hd2) ((x.transU E.uB y).transU E.uB y2)⟩
theorem r_ifU (h : EvTU K tt ρt k) (hu : UrnOk n ds) (hk : n + k ≤ 1000000) (h1 : ∀ es, UrnOk (n + k) es → Runs K t (.cel u es :: ρt) RT NX BK CT) (h2 : ∀ es, UrnOk (n + k) es → Runs K w (.cel u es :: ρt) RT NX BK CT) : Runs K (tIfS tt t w) (.cel u ds :: ρt) RT NX BK CT := fun G0 H0 G H σ D E x rt nx bk ct => h n u ds H0 G H σ _ E hu hk fun b G2 H2 y nw => by
  obtain ⟨es, E2, ok⟩ := E.stepU y nw
  cases b with
  | true => exact h1 es ok G0 H0 G2 H2 σ D E2 (x.transU E.uB y) rt nx bk ct
  | false => exact h2 es ok G0 H0 G2 H2 σ D E2 (x.transU E.uB y) rt nx bk ct
theorem r_appU {fs : List PyData} (hi : ρt[i]? = some (.lv fs)) (h : EvU K te ρt k P) (hu : UrnOk n ds) (hk : n + k ≤ 1000000) (hl : fs.length < 1000) (q : ∀ d es, P d → UrnOk (n + k) es → NX (SD.cel u es :: ρt.set i (.lv (fs ++ [d])))) : Runs K (tDrop (tBM K "list" rAppend (tVar (i + 1)) (tCons te tNil))) (.cel u ds :: ρt) RT NX BK CT := fun G0 H0 G H σ D E x rt nx bk ct => by
  obtain ⟨y, hy, l, xs, rfl, hH, hG, hB, hd⟩ := E.slot (i + 1) _ hi
  refine ⟨.ref l, hy, .inl ⟨rfl, xs, .inl (.inl hH)⟩, h n u ds H0 G H σ _ E hu hk fun v d G2 H2 p z nw hv => ?_⟩
  obtain ⟨es, E2, ok⟩ := E.stepU z nw
  have w := x.transU E.uB z
  obtain ⟨y2, hy2, l2, xs2, e2, hH2, hG2, hB2, hd2⟩ := E2.slot (i + 1) _ hi
  rw [hy] at hy2
  cases hy2
  cases e2
  refine ⟨l, xs2, v, rfl, rfl, hH2, small1000 (by rw [dpa_len hd2]; omega), ?_⟩
  refine nx _ G2 _ σ (q d es p ok) (E2.mutate (i := i + 1) hi hy (dpa_append hd2 (.cons hv .nil))) ?_
  exact ⟨w.ex, fun a o e => by rw [upd_ne fun n => by subst n; rw [hG2] at e; cases e]; exact w.sub a o e, fun a o e => by rw [upd_ne fun n => by subst n; rw [hB] at e; cases e]; exact w.on a o e, w.sep⟩
/-- fs.append(ls.pop(a drawn place)) -/
theorem r_popU {fs ls : List PyData} (hij : i ≠ j) (hi : ρt[i]? = some (.lv fs)) (hj : ρt[j]? = some (.lv ls)) (h : EvU K te ρt k fun d => ∃ r : Int, d = .int r ∧ 0 ≤ r ∧ r < ls.length) (hu : UrnOk n ds) (hk : n + k ≤ 1000000) (hl : fs.length < 1000) (hl2 : ls.length ≤ 1000)
    (q : ∀ r es, (hr : r < ls.length) → UrnOk (n + k) es → NX (SD.cel u es :: (ρt.set j (.lv (ls.eraseIdx r))).set i (.lv (fs ++ [ls[r]])))) :
    Runs K (tDrop (tBM K "list" rAppend (tVar (i + 1)) (tCons (tBM K "list" rPopAt (tVar (j + 1)) (tCons te tNil)) tNil))) (.cel u ds :: ρt) RT NX BK CT := fun G0 H0 G H σ D E x rt nx bk ct => by
  obtain ⟨y, hy, l, xs, rfl, hH, hG, hB, hd⟩ := E.slot (i + 1) _ hi
  obtain ⟨y', hy', l', xs', rfl, hH', hG', hB', hd'⟩ := E.slot (j + 1) _ hj
  refine ⟨.ref l, hy, .inl ⟨rfl, xs, .inl (.inl hH)⟩, .ref l', hy', .inl ⟨rfl, xs', .inl (.inl hH')⟩, h n u ds H0 G H σ _ E hu hk fun v d G2 H2 p z nw hv => ?_⟩
  obtain ⟨es, E2, ok⟩ := E.stepU z nw
  have w := x.transU E.uB z
  obtain ⟨r, rfl, r0, r1⟩ := p
  obtain ⟨y2, hy2, l2, xs2, e2, hH2, hG2, hB2, hd2⟩ := E2.slot (j + 1) _ hj
  rw [hy'] at hy2
  cases hy2
  cases e2
  have hlen := dpa_len hd2
  have hr : r.toNat < ls.length := by omega
  obtain ⟨z2, hz2, hdz⟩ := dpa_get hd2 (List.getElem?_eq_getElem hr)
  have er : r = ((r.toNat : Nat) : Int) := by omega
  refine ⟨l', xs2, r, r.toNat, z2, rfl, by rw [dp_int hv], hH2, by omega, by omega, ?_, hz2, ?_⟩
  · have q1 := (ixN_seq (n := xs2.length) (i := r) (j := r.toNat) (by rw [er]; exact Evl.ixN_nat (by omega))).1
    exact q1
  have E3 := E2.mutate (i := j + 1) hj hy' (dpa_erase r.toNat hd2)
  have w3 : Ext G0 G2 H0 (upd H2 l' (.lst (xs2.eraseIdx r.toNat))) := ⟨w.ex, fun a o e => by rw [upd_ne fun n => by subst n; rw [hG2] at e; cases e]; exact w.sub a o e, fun a o e => by rw [upd_ne fun n => by subst n; rw [hB'] at e; cases e]; exact w.on a o e, w.sep⟩
  have hi3 : ((SD.cel u es :: ρt).set (j + 1) (.lv (ls.eraseIdx r.toNat)))[i + 1]? = some (.lv fs) := by
    rw [List.getElem?_set_ne (by omega)]
    exact hi
  obtain ⟨y4, hy4, l4, xs4, e4, hH4, hG4, hB4, hd4⟩ := E3.slot (i + 1) _ hi3
  rw [hy] at hy4
  cases hy4
  cases e4
  refine ⟨l, xs4, z2, rfl, rfl, hH4, small1000 (by rw [dpa_len hd4]; omega), ?_⟩
  refine nx _ G2 _ σ (q r.toNat es hr ok) (E3.mutate (i := i + 1) hi3 hy (dpa_append hd4 (.cons hdz .nil))) ?_
  exact ⟨w3.ex, fun a o e => by rw [upd_ne fun n => by subst n; rw [hG4] at e; cases e]; exact w3.sub a o e, fun a o e => by rw [upd_ne fun n => by subst n; rw [hB4] at e; cases e]; exact w3.on a o e, w3.sep⟩
/-- the loop itself, its walk known -/
theorem for_core {g : TG} {tb : TS} {J : It} {ρ : Ro} {ds : List PyData} {G0 H0 G2 H2 : Hp} {σ : L2.St} {D : Ends} (E2 : EnvG K H0 G2 H2 σ ρ) (xy : Ext G0 G2 H0 H2) (w : WalkD K G2 J ds) (Iv : Nat → Ro → Prop) (h0 : Iv 0 ρ)
    (hs : ∀ (i : Nat) (d : PyData) (ρ1 : Ro), ds[i]? = some d → Iv i ρ1 → ∃ ρ2 js, EvG K g ρ1 d ρ2 js ∧ Runs K tb ρ2 RT (Iv (i + 1)) NX (Iv (i + 1))) (hd : ∀ ρ1, Iv ds.length ρ1 → NX ρ1)
    (rt : ∀ ρ' d v G2 H2 σ2, RT ρ' d → EnvG K H0 G2 H2 σ2 ρ' → Ext G0 G2 H0 H2 → Dp K G2 v d → D.rt v H2) (nx : ∀ ρ' G2 H2 σ2, NX ρ' → EnvG K H0 G2 H2 σ2 ρ' → Ext G0 G2 H0 H2 → D.nx σ2 H2) :
    ∃ W : Nat → Nat → L2.St → Hp → Prop, (∃ m, W 0 m σ H2) ∧ ∀ i m σ H, W i m σ H → (J.stop i H ∧ D.nx σ H) ∨ (J.go i H ∧ ∃ N : L2.St → Hp → Prop, (∀ σ' H', N σ' H' → ∃ m', m' < m ∧ W (i + 1) m' σ' H') ∧ ∀ x H', J.yld i H x H' → g x σ H' fun σ2 H2 => tb { D with nx := N, ct := N, bk := D.nx } σ2 H2) := by
  have rtM : ∀ ρ' d v G3 H3 σ3, RT ρ' d → EnvG K (mask σ ρ H2) G3 H3 σ3 ρ' → Ext G2 G3 (mask σ ρ H2) H3 → Dp K G3 v d → D.rt v H3 := fun ρ' d v G3 H3 σ3 a b c e => rt ρ' d v G3 H3 σ3 a (E2.back xy b) (Ext.based E2 xy c) e
  have nxM : ∀ ρ' G3 H3 σ3, NX ρ' → EnvG K (mask σ ρ H2) G3 H3 σ3 ρ' → Ext G2 G3 (mask σ ρ H2) H3 → D.nx σ3 H3 := fun ρ' G3 H3 σ3 a b c => nx ρ' G3 H3 σ3 a (E2.back xy b) (Ext.based E2 xy c)
  refine ⟨fun i m σ1 H1 => m = ds.length - i ∧ i ≤ ds.length ∧ ∃ ρ1 G1, Iv i ρ1 ∧ EnvG K (mask σ ρ H2) G1 H1 σ1 ρ1 ∧ Ext G2 G1 (mask σ ρ H2) H1, ⟨ds.length, by simp, Nat.zero_le _, ρ, G2, h0, E2.rebase, E2.selfExt⟩, ?_⟩
  rintro i m σ1 H1 ⟨rfl, hil, ρ1, G1, iv, E1, x1⟩
  have eg : Ex G2 H1 := x1.ex.trans x1.sub
  by_cases hlt : i < ds.length
  · refine .inr ⟨w.go i H1 hlt eg, fun σ' H' => ∃ ρ' G', Iv (i + 1) ρ' ∧ EnvG K (mask σ ρ H2) G' H' σ' ρ' ∧ Ext G2 G' (mask σ ρ H2) H', fun σ' H' hn => ⟨ds.length - (i + 1), by omega, rfl, hlt, hn⟩, fun v H' hy => ?_⟩
    obtain ⟨G', d0, z, hd0, hdp⟩ := w.yld i H1 v H' hlt eg hy
    obtain ⟨G'', z1, z2⟩ := Ext.widen x1.ex E1.sub z
    obtain ⟨ρ2, js, hg, hr⟩ := hs i d0 ρ1 hd0 iv
    refine hg _ G'' H' σ1 v _ (E1.ext z1) (dp_mono z2 _ _ hdp) fun σ2 E3 _ => ?_
    exact hr G2 (mask σ ρ H2) G'' H' σ2 _ E3 (x1.trans z1) rtM (fun ρ' G3 H3 σ3 a b c => ⟨ρ', G3, a, b, c⟩) nxM (fun ρ' G3 H3 σ3 a b c => ⟨ρ', G3, a, b, c⟩)
  · have hie : i = ds.length := by omega
    subst hie
    exact .inl ⟨w.stop H1 eg, nxM ρ1 G1 H1 σ1 (hd ρ1 iv) E1 x1⟩
/-- for .. in range(a drawn number) -/
theorem r_forU {g : TG} {tb : TS} {m : Nat} (h : EvU K te ρt k fun d => ∃ r : Int, d = .int r ∧ 0 ≤ r ∧ r < m) (hm : m ≤ 1000) (hu : UrnOk n ds) (hk : n + k ≤ 1000000) (Iv : Nat → Ro → Prop) (h0 : ∀ es, UrnOk (n + k) es → Iv 0 (.cel u es :: ρt))
    (hs : ∀ (i : Nat) (ρ1 : Ro), i < m → Iv i ρ1 → ∃ ρ2 js, EvG K g ρ1 (.int (i : Int)) ρ2 js ∧ Runs K tb ρ2 RT (Iv (i + 1)) NX (Iv (i + 1))) (hd : ∀ i ρ1, i < m → Iv i ρ1 → NX ρ1) : Runs K (tFor (iRng1 (tCons te tNil)) g tb) (.cel u ds :: ρt) RT NX BK CT := fun G0 H0 G H σ D E x rt nx bk ct => h n u ds H0 G H σ _ E hu hk fun v d G2 H2 p y nw hv => by
  obtain ⟨r, rfl, r0, r1⟩ := p
  obtain ⟨es, E2, ok⟩ := E.stepU y nw
  refine ⟨r, by rw [dp_int hv], by omega, by omega, ?_⟩
  have hlen : (dRg r.toNat).length = r.toNat := by unfold dRg; simp
  refine for_core E2 (x.transU E.uB y) (walk_rg r.toNat) Iv (h0 es ok) (fun i d ρ1 hd iv => ?_) (fun ρ1 iv => hd r.toNat ρ1 (by omega) (by rw [hlen] at iv; exact iv)) rt nx
  have hi : i < r.toNat := by
    have := (List.getElem?_eq_some_iff.mp hd).1
    omega
  have e : d = .int (i : Int) := by
    unfold dRg at hd
    rw [List.getElem?_map, List.getElem?_range hi] at hd
    exact (Option.some.inj hd).symm
  subst e
  exact hs i ρ1 (by omega) iv
end
/-! defs with an urn -/
section
variable {P : Program} {w : World} {K : PySem.W.Frag} {mg : Str → Option Value} {base : Heap}
theorem fn_u {α : Type} {enc : α → List PyData} {Pre : α → Prop} {cost : α → Nat} {R : α → PyData → Prop} {x qual : Str} {st : Stmt} {f : Addr} {fd : FuncData} {N ps : List Str} {k : Nat} (F : Fun K x qual st f fd) (S : FnScope N ps (defScope st)) (hl : ∀ a, Pre a → (enc a).length + 1 = ps.length) (hN : ps.length ≤ N.length)
    (h : ∀ (cdv : Value) (A : Around) (outer : List Env) (s : Shared) (H : Hp) (E : XK), Room k (A.deeper (envOfC qual (defScope st) s.heap.objs.size f cdv)) → ∃ t, PSs (cxOf CX0 P w K mg base N qual (defScope st) f cdv A outer s H E).nox (defBody st) t ∧
      ∀ a n u ds, Pre a → UrnOk n ds → n + cost a ≤ 1000000 → Runs K t (.cel u ds :: ((enc a).map SD.dat ++ List.replicate (N.length - ((enc a).length + 1)) SD.no)) (fun ρ' d => R a d ∧ ∃ es ρt, ρ' = .cel u es :: ρt ∧ UrnOk (n + cost a) es) (fun _ => False) (fun _ => False) (fun _ => False)) : FnOk P w K mg base CX0 (k + 1) f fd ps (spU K enc Pre cost R) := by
  refine F.ok S (fun vs H Q E hsp => ?_) (fun cdv A outer s H vs Q E hr hsp => ?_)
  · obtain ⟨a, G, u, n, ds, xs, us, rfl, _, _, _, _, _, _, hd, hp, _⟩ := hsp
    rw [List.length_cons, dpa_len hd]
    exact hl a hp
  · obtain ⟨a, G, u, n, ds, xs, us, rfl, hg, gu, hu, hxs, ok, hk, hd, hp, q⟩ := hsp
    obtain ⟨t, ht, hrun⟩ := h cdv A outer s H E hr
    refine ⟨t, ht, ?_⟩
    have hB : ∃ B : Hp, B u = none ∧ ∀ a, a ≠ u → B a = H a := ⟨fun a => if a = u then none else H a, by simp, fun a ha => by simp [ha]⟩
    obtain ⟨B, bu, bo⟩ := hB
    have hlen := hl a hp
    have hst := start_env (K := K) (B := B) (N := N.tail) hg hd (by rw [List.length_tail]; omega)
    have hN1 : N.length = N.tail.length + 1 := by rw [List.length_tail]; omega
    have es : L2.start N (.ref u :: us) = some (.ref u) :: L2.start N.tail us := by
      unfold L2.start
      simp
      omega
    have er : N.length - ((enc a).length + 1) = N.tail.length - (enc a).length := by omega
    have E0 : EnvG K B G H (L2.start N (.ref u :: us)) (.cel u ds :: ((enc a).map SD.dat ++ List.replicate (N.length - ((enc a).length + 1)) SD.no)) := by
      rw [es, er]
      refine ⟨hg, by rw [List.length_cons, List.length_cons, hst.len], fun i s hi => ?_, fun i j s t l hij h1 h2 c1 c2 e1 e2 => ?_⟩
      · cases i with
        | zero => cases hi; exact ⟨_, rfl, rfl, ⟨xs, hu, hxs⟩, gu, bu⟩
        | succ i => exact hst.slot i s hi
      · cases i with
        | succ i =>
          cases j with
          | succ j => exact hst.dis i j s t l (by omega) h1 h2 c1 c2 e1 e2
          | zero =>
            have hm := List.mem_of_getElem? (show (List.map SD.dat (enc a) ++ List.replicate (N.tail.length - (enc a).length) SD.no)[i]? = some s from h1)
            rcases List.mem_append.mp hm with hm | hm
            · obtain ⟨d, _, rfl⟩ := List.mem_map.mp hm
              cases c1
            · rw [(List.mem_replicate.mp hm).2] at c1
              cases c1
        | zero =>
          cases j with
          | zero => exact hij rfl
          | succ j =>
            have hm := List.mem_of_getElem? (show (List.map SD.dat (enc a) ++ List.replicate (N.tail.length - (enc a).length) SD.no)[j]? = some t from h2)
            rcases List.mem_append.mp hm with hm | hm
            · obtain ⟨d, _, rfl⟩ := List.mem_map.mp hm
              cases c2
            · rw [(List.mem_replicate.mp hm).2] at c2
              cases c2
    have x0 : Ext G G B H := ⟨Evl.Ex.refl _, hg, fun c o e => by
      by_cases hc : c = u
      · subst hc; rw [bu] at e; cases e
      · rw [bo c hc] at e; exact e, fun _ h _ => h⟩
    refine hrun a n u ds hp ok hk G B G H _ _ E0 x0 (fun ρ' d v G2 H2 σ2 hR E2 y hv => ?_) (fun _ _ _ _ h => h.elim) (fun _ _ _ _ h => h.elim) (fun _ _ _ _ h => h.elim)
    obtain ⟨hR, es2, ρt, rfl, ok2⟩ := hR
    refine q v d G2 H2 hR ⟨y.ex, y.sub, fun c o hc e => y.on c o (by rw [bo c hc]; exact e), fun c h1 h2 => ?_⟩ (E2.now ok2) hv
    by_cases hc : c = u
    · subst hc; exact E2.uG
    · exact y.sep c h1 (by rw [bo c hc]; exact h2)
end
end My
/-! the calculus: a place of a list read and set; two new lists at once -/
namespace My
open PySem PySem.Spec PyProof.Rows L2
open Evl (Ex)
section
variable {K : PySem.W.Frag} {ρ ρt : Ro} {ta tb te : TE} {c d : PyData} {ds es : List PyData} {i j k n : Nat} {u p : Addr} {RT : Ro → PyData → Prop} {NX BK CT : Ro → Prop}
theorem ed_ixC (h : ρ[i]? = some (.cel u ds)) (hb : EvD K tb ρ (.int (j : Int))) (hd : ds[j]? = some d) : EvD K (tOp (rIx K) (tVar i) tb) ρ d := fun B G H σ Q E q => by
  obtain ⟨x, hx, q1, ⟨xs, q2, q3⟩, q4, q5⟩ := E.slot i _ h
  subst q1
  refine ⟨.ref u, hx, hb B G H σ _ E fun w G2 H2 z hw => ?_⟩
  obtain ⟨v, h3, h4⟩ := dpa_get q3 hd
  exact .inl ⟨u, xs, (j : Int), v, rfl, dp_int hw, .inl (.inl (z.on _ _ q2)), atI_nat h3, q v G2 H2 z (dp_mono z.ex _ _ h4)⟩
theorem r_setC (h : EvD K te (.cel u ds :: ρt) d) (hj : j < ds.length) (q : NX (.cel u (ds.set j d) :: ρt)) : Runs K (tAsg te (gSub (tVar 0) (tC (.int (j : Int))) rSetL)) (.cel u ds :: ρt) RT NX BK CT := fun G0 H0 G H σ D E x rt nx bk ct => h H0 G H σ _ E fun v G2 H2 y hd => by
  have E2 := E.ext y
  obtain ⟨z, hz, q1, ⟨xs, q2, q3⟩, q4, q5⟩ := E2.slot 0 _ rfl
  have hx := E2.at0
  refine ⟨.ref u, hx, u, xs, (j : Int), j, rfl, rfl, q2, Evl.ixN_nat (by rw [dpa_len q3]; exact hj), ?_⟩
  have xu : ExtU u G2 G2 H2 (upd H2 u (.lst (xs.set j v))) := ⟨Evl.Ex.refl _, fun a o e => by rw [upd_ne fun n => by subst n; rw [q4] at e; cases e]; exact y.sub a o e, fun a o ha e => by rw [upd_ne ha]; exact e, fun a e _ => e⟩
  exact nx _ G2 _ σ q (E2.extU xu upd_same (dpa_set j hd q3)) ((x.trans y).transU E.uB xu)
theorem r_parL {t1 t2 : TE} (h1 : EvL K t1 ρ ds) (h2 : EvL K t2 ρ es) (k : NX ((ρ.set i (.lv ds)).set j (.lv es))) : Runs K (tPar i j (tCons t1 (tCons t2 tNil))) ρ RT NX BK CT := fun G0 H0 G H σ D E x rt nx bk ct => h1 H0 G H σ _ E fun p xs G2 H2 y a1 a2 a3 a4 => h2 H0 G2 H2 σ _ (E.ext y) fun p2 xs2 G3 H3 z b1 b2 b3 b4 =>
  ⟨_, _, rfl, nx _ G3 H3 _ k ((E.newL y (x.freshH a1) a1 a2 a3 a4).newL z ((x.trans y).freshH b1) b1 b2 b3 b4) ((x.trans y).trans z)⟩
theorem ed_neE (h : ρ[i]? = some (.lv ds)) (hs : SeqAt.shaped (.list ds) = true) : EvD K (tOp (rNeD K) (tVar i) (tLst tNil)) ρ (.bool (!ds.isEmpty)) := fun B G H σ Q E q => by
  obtain ⟨y, hy, l, xs, rfl, hH, hG, hB, hd⟩ := E.slot i _ h
  refine ⟨.ref l, hy, ?_⟩
  have z : EvL K (tLst tNil) ρ [] := el_lst ea_nil (by decide)
  refine z B G H σ _ E fun p xs2 G2 H2 x a1 a2 a3 a4 => ?_
  have e2 : Ex G H2 := x.ex.trans x.sub
  have e : (!PyData.eqv (.list ds) (.list [])) = !ds.isEmpty := by
    cases ds with
    | nil => simp [PyData.eqv, PyData.eqvAll]
    | cons a b => simp [PyData.eqv, PyData.eqvAll]
  have q' := q (.bl (!ds.isEmpty)) G2 H2 x (.bl _)
  rw [← e] at q'
  exact ⟨.list ds, .list [], .lst (.inl (.inl (x.on _ _ hH))) (dpa_mono e2 _ _ hd), .lst (.inl (.inl a3)) (dpa_mono x.sub _ _ a4), hs, by decide, q'⟩
end
end My
namespace My
open PySem PySem.Spec PyProof.Rows L2
open Evl (Ex)
section
variable {K : PySem.W.Frag} {ρ ρt : Ro} {ta tb te : TE} {c d : PyData} {ds es : List PyData} {i j k n : Nat} {u p : Addr} {P : PyData → Prop}
theorem UrnNow.mono {G H : Hp} {m : Nat} (h : UrnNow K G H u n) (hm : n ≤ m) : UrnNow K G H u m := by
  obtain ⟨xs, ds, h1, h2, h3⟩ := h
  exact ⟨xs, ds, h1, h2, h3.mono hm⟩
theorem eu_cost {k2 : Nat} (h : EvU K te ρt k P) (hk : k ≤ k2) : EvU K te ρt k2 P := fun n u ds B G H σ Q E hu hn q => h n u ds B G H σ Q E hu (by omega) fun v d G2 H2 p x nw hv => q v d G2 H2 p x (nw.mono (by omega)) hv
theorem ExtU.take {G G2 H H2 : Hp} {o : HO} (a : ExtU u G G2 H H2) (h : H p = none) (g : G2 p = none) (e : H2 p = some o) : ExtU u G (upd G2 p o) H H2 := by
  refine ⟨a.ex.trans (Evl.Ex.new g), fun c u q => ?_, a.on, fun c h1 h2 => ?_⟩
  · by_cases hc : c = p
    · subst hc; rw [upd_same] at q; rw [e]; exact q
    · rw [upd_ne hc] at q; exact a.sub c u q
  · rw [upd_ne fun z => by subst z; exact h2 h]
    exact a.sep c h1 h2
theorem eu_l {PL : List PyData → Prop} (ha : EvUL K te ρt k PL) : EvU K te ρt k fun d => ∃ es, d = .list es ∧ PL es := fun n u ds B G H σ Q E hu hk q => ha n u ds B G H σ _ E hu hk fun p xs es G2 H2 pl x nw h1 h2 h3 h4 => by
  obtain ⟨ys, fs, w1, w2, w3⟩ := nw
  exact q (.ref p) (.list es) _ H2 ⟨es, rfl, pl⟩ (x.take h1 h2 h3) ⟨ys, fs, w1, dpa_mono (Evl.Ex.new h2) _ _ w2, w3⟩ (.lst (.inl (.inl upd_same)) (dpa_mono (Evl.Ex.new h2) _ _ h4))
end
end My
/-! the calculus: a list of new lists, one place of one of them set -/
namespace My
open PySem PySem.Spec PyProof.Rows L2
open Evl (Ex)
section
variable {K : PySem.W.Frag}
def Liv (K : PySem.W.Frag) (B G H : Hp) (p : Addr) (es : List PyData) : Prop := ∃ xs, H p = some (.lst xs) ∧ DpAll K G xs es ∧ G p = none ∧ B p = none
theorem Liv.ne {B G H : Hp} {p : Addr} {es : List PyData} (h : Liv K B G H p es) : H p ≠ none := by
  obtain ⟨xs, h1, _⟩ := h
  rw [h1]
  exact fun h => nomatch h
theorem Liv.ext {B G G2 H H2 : Hp} {p : Addr} {es : List PyData} (h : Liv K B G H p es) (x : Ext G G2 H H2) : Liv K B G2 H2 p es := by
  have hn := h.ne
  obtain ⟨xs, h1, h2, h3, h4⟩ := h
  exact ⟨xs, x.on _ _ h1, dpa_mono x.ex _ _ h2, x.sep _ h3 hn, h4⟩
theorem Liv.upd {B G H : Hp} {p a : Addr} {o : HO} {es : List PyData} (h : Liv K B G H p es) (n : p ≠ a) : Liv K B G (upd H a o) p es := by
  obtain ⟨xs, h1, h2, h3, h4⟩ := h
  exact ⟨xs, by rw [upd_ne n]; exact h1, h2, h3, h4⟩
def EvRows (K : PySem.W.Frag) (te : TE) (ρ : Ro) (rows : List (List PyData)) : Prop := ∀ (B G H : Hp) (σ : L2.St) (Q : VK), EnvG K B G H σ ρ →
  (∀ (l : Addr) (ps : List Addr) (G2 H2 : Hp), Ext G G2 H H2 → H l = none → G2 l = none → H2 l = some (.lst (ps.map V.ref)) → ps.Nodup → l ∉ ps → ps.length = rows.length → (∀ (i : Nat) (r : List PyData) (p : Addr), rows[i]? = some r → ps[i]? = some p → Liv K H G2 H2 p r) → Q (.ref l) H2) → te σ H Q
theorem er_lc {ρ ρw : Ro} {wi : TI} {is : List PyData} {rows : List (List PyData)} {j : Nat} {vs : List Nat} (hi : EvI K wi ρ is) (e : is = rows.map .tuple) (hw : wipeR ρ vs = ρw) (hj : j ∈ vs) (hl : is.length ≤ 1000) (hjl : j < ρw.length) :
    EvRows K (tLc wi (gName j) tYes (tCB (rLstQ K) (tCons (tVar j) tNil)) vs) ρ rows := fun B G H σ Q E q => hi B G H σ _ E fun J G2 H2 x w => by
  subst e
  intro D hD
  rw [List.length_map] at hl
  have hlen : (rows.map PyData.tuple).length = rows.length := List.length_map _
  have E2 := E.ext x
  refine ⟨fun i m H3 => m = rows.length - i ∧ i ≤ rows.length ∧ ∃ (G3 : Hp) (ps : List Addr), Ext G2 G3 H2 H3 ∧ G3 D = none ∧ H3 D = some (.lst (ps.map V.ref)) ∧ ps.length = i ∧ ps.Nodup ∧ D ∉ ps ∧ ∀ (k : Nat) (r : List PyData) (p : Addr), rows[k]? = some r → ps[k]? = some p → Liv K H2 G3 H3 p r,
    ⟨rows.length, by simp, Nat.zero_le _, G2, [], (Ext.refl x.sub).newH hD, x.freshG hD, upd_same, rfl, List.nodup_nil, (fun h => nomatch h), (fun k r p _ h => nomatch h)⟩, ?_⟩
  rintro i m H3 ⟨rfl, hil, G3, ps, y, gD, hDl, hpl, hnd, hDp, hP⟩
  have eg : Ex G2 H3 := y.ex.trans y.sub
  by_cases hlt : i < rows.length
  · refine .inr ⟨w.go i H3 (by rw [hlen]; exact hlt) eg, fun H' => ∃ (G3 : Hp) (ps : List Addr), Ext G2 G3 H2 H' ∧ G3 D = none ∧ H' D = some (.lst (ps.map V.ref)) ∧ ps.length = i + 1 ∧ ps.Nodup ∧ D ∉ ps ∧ ∀ (k : Nat) (r : List PyData) (p : Addr), rows[k]? = some r → ps[k]? = some p → Liv K H2 G3 H' p r, fun H' hn => ⟨rows.length - (i + 1), by omega, rfl, hlt, hn⟩, fun v H' hy => ?_⟩
    obtain ⟨G', d0, z, hd0, hdp⟩ := w.yld i H3 v H' (by rw [hlen]; exact hlt) eg hy
    have hd1 : d0 = .tuple rows[i] := by
      rw [List.getElem?_map, List.getElem?_eq_getElem hlt] at hd0
      exact (Option.some.inj hd0).symm
    subst hd1
    obtain ⟨G'', z1, z2⟩ := Ext.widen y.ex y.sub z
    have E3 := ((E2.ext y).ext z1)
    have E4 := E3.wipe vs
    rw [hw] at E4
    show wipe ((wipe σ vs).set j (some v)) vs = wipe σ vs ∧ _
    refine ⟨by rw [wipe_set hj, wipe_wipe], ?_⟩
    simp only [tYes, if_true]
    have E5 : EnvG K B G'' H' ((wipe σ vs).set j (some v)) (ρw.set j (.dat (.tuple rows[i]))) := E4.setD (i := j) (dp_mono z2 _ _ hdp)
    have dG : G'' D = none := z1.sep D gD (by rw [hDl]; exact fun n => nomatch n)
    have dH : H' D = some (.lst (ps.map V.ref)) := z1.on _ _ hDl
    have hve : EvL K (tCB (rLstQ K) (tCons (tVar j) tNil)) (ρw.set j (.dat (.tuple rows[i]))) rows[i] := el_list (ed_var (List.getElem?_set_self hjl)) (.inl rfl)
    refine hve B G'' H' _ _ E5 fun p xs G5 H5 x5 a1 a2 a3 a4 => ?_
    have dG5 : G5 D = none := x5.sep D dG (by rw [dH]; exact fun n => nomatch n)
    have dH5 : H5 D = some (.lst (ps.map V.ref)) := x5.on _ _ dH
    have hpD : p ≠ D := fun e => by subst e; rw [dH] at a1; cases a1
    have t := (y.trans z1).trans x5
    have hpn : p ∉ ps := fun hm => by
      obtain ⟨k, hk, hkp⟩ := List.getElem_of_mem hm
      have hk2 : k < rows.length := by omega
      have L := hP k rows[k] p (List.getElem?_eq_getElem hk2) (by rw [List.getElem?_eq_getElem hk, hkp])
      have := (L.ext z1).ne
      exact this a1
    have hp2 : H2 p = none := (y.trans z1).freshH a1
    refine ⟨ps.map V.ref, dH5, small1000 (by rw [List.length_map]; omega), G5, ps ++ [p], ⟨t.ex, fun a o e => ?_, fun a o e => ?_, t.sep⟩, dG5, by rw [List.map_append]; exact upd_same, by simp [hpl], ?_, ?_, fun k r p' hk hp' => ?_⟩
    · rw [upd_ne fun n => by subst n; rw [dG5] at e; cases e]
      exact t.sub a o e
    · rw [upd_ne fun n => by subst n; rw [hD] at e; cases e]
      exact t.on a o e
    · rw [List.nodup_append]
      refine ⟨hnd, by simp, fun a ha b hb => ?_⟩
      rw [List.mem_singleton.mp hb]
      exact fun e => by subst e; exact hpn ha
    · intro hm
      rcases List.mem_append.mp hm with hm | hm
      · exact hDp hm
      · exact hpD (List.mem_singleton.mp hm).symm
    · by_cases hk2 : k < i
      · rw [List.getElem?_append_left (by omega)] at hp'
        have L := hP k r p' hk hp'
        refine ((L.ext z1).ext x5).upd fun e => ?_
        subst e
        exact hDp (List.mem_of_getElem? hp')
      · have hki : k = i := by
          have := (List.getElem?_eq_some_iff.mp hp').1
          simp at this
          omega
        subst hki
        rw [List.getElem?_append_right (by omega), hpl] at hp'
        simp at hp'
        subst hp'
        rw [List.getElem?_eq_getElem hlt] at hk
        cases hk
        exact Liv.upd ⟨xs, a3, a4, a2, hp2⟩ hpD
  · have hie : i = rows.length := by omega
    subst hie
    refine .inl ⟨by have := w.stop H3 eg; rw [hlen] at this; exact this, ?_⟩
    refine q D ps G3 H3 (x.trans y) (x.freshH hD) gD hDl hnd hDp hpl fun k r p hk hp => ?_
    obtain ⟨xs, b1, b2, b3, b4⟩ := hP k r p hk hp
    exact ⟨xs, b1, b2, b3, x.freshH b4⟩
/-- rows = [list(..) ..]; rows[k][j] = f(rows[k][j], c); then the rest, the rows known -/
theorem r_rows {α : Type} {enc : α → List PyData} {Pre : α → Prop} {R : α → PyData → Prop} {ρ : Ro} {te tb : TE} {t3 : TS} {rows : List (List PyData)} {row : List PyData} {i5 i3 i4 k j : Nat} {c d0 : PyData} {E0 : XK} {RT : Ro → PyData → Prop} {NX BK CT : Ro → Prop}
    (h1 : EvRows K te ρ rows) (h53 : i5 ≠ i3) (h54 : i5 ≠ i4) (h5 : i5 < ρ.length) (h3 : ρ[i3]? = some (.dat (.int (k : Int)))) (h4 : ρ[i4]? = some (.dat (.int (j : Int)))) (hk : rows[k]? = some row) (hj : row[j]? = some d0) (hb : EvD K tb (ρ.set i5 .no) c) (a : α) (ha : enc a = [d0, c]) (hp : Pre a)
    (h : ∀ e, R a e → Runs K t3 (ρ.set i5 (.dat (.list ((rows.set k (row.set j e)).map .list)))) RT NX BK CT) :
    Runs K (tSeq (tAsg te (gName i5)) (tSeq (tAsg (tCall (spT K enc Pre R) [] E0 (tCons (tOp (rIx K) (tOp (rIx K) (tVar i5) (tVar i3)) (tVar i4)) (tCons tb tNil))) (gSub (tOp (rIx K) (tVar i5) (tVar i3)) (tVar i4) rSetL)) t3)) ρ RT NX BK CT :=
  fun G0 H0 G H σ D E x rt nx bk ct => h1 H0 G H σ _ E fun l ps G2 H2 y a1 a2 a3 hnd hlp hpl hL => by
    have hkl : k < rows.length := (List.getElem?_eq_some_iff.mp hk).1
    have hjl : j < row.length := (List.getElem?_eq_some_iff.mp hj).1
    have hkp : k < ps.length := by omega
    obtain ⟨pk, hpk⟩ : ∃ p, ps[k]? = some p := ⟨_, List.getElem?_eq_getElem hkp⟩
    have hpm : pk ∈ ps := List.mem_of_getElem? hpk
    have Lk := hL k row pk hk hpk
    have E2 : EnvG K H0 G2 H2 (σ.set i5 (some (.ref l))) (ρ.set i5 .no) := (E.ext y).setN _
    have hl5 : i5 < σ.length := by rw [E.len]; exact h5
    have g5 : (σ.set i5 (some (V.ref l)))[i5]? = some (some (.ref l)) := List.getElem?_set_self hl5
    have g3 : (σ.set i5 (some (V.ref l)))[i3]? = some (some (.int (k : Int))) := by
      rw [List.getElem?_set_ne h53]
      obtain ⟨z, hz, v, rfl, hv⟩ := E.slot i3 _ h3
      rw [hz, dp_int hv]
    have g4 : (σ.set i5 (some (V.ref l)))[i4]? = some (some (.int (j : Int))) := by
      rw [List.getElem?_set_ne h54]
      obtain ⟨z, hz, v, rfl, hv⟩ := E.slot i4 _ h4
      rw [hz, dp_int hv]
    have rk : ∀ {H' : Hp} {Q : VK}, H' l = some (.lst (ps.map V.ref)) → Q (.ref pk) H' → tOp (rIx K) (tVar i5) (tVar i3) (σ.set i5 (some (V.ref l))) H' Q := fun {H' Q} e q =>
      ⟨.ref l, g5, .int (k : Int), g3, .inl ⟨l, ps.map V.ref, (k : Int), .ref pk, rfl, rfl, .inl (.inl e), atI_nat (by rw [List.getElem?_map, hpk]; rfl), q⟩⟩
    obtain ⟨xs, k1, k2, k3, k4⟩ := Lk
    obtain ⟨v0, hv0, hdv0⟩ := dpa_get k2 hj
    refine rk a3 ⟨.int (j : Int), g4, .inl ⟨pk, xs, (j : Int), v0, rfl, rfl, .inl (.inl k1), atI_nat hv0, ?_⟩⟩
    refine hb H0 G2 H2 _ _ E2 fun w G3 H3 z hw => ?_
    refine ⟨a, G3, z.sub, by rw [ha]; exact .cons (dp_mono z.ex _ _ hdv0) (.cons hw .nil), hp, fun v e G4 H4 hr b hv => ?_⟩
    have zb := z.trans b
    have E4 := (E2.ext z).ext b
    have hl4 : H4 l = some (.lst (ps.map V.ref)) := zb.on _ _ a3
    have hL4 : ∀ (i : Nat) (r : List PyData) (p : Addr), rows[i]? = some r → ps[i]? = some p → Liv K H G4 H4 p r := fun i r p q1 q2 => (hL i r p q1 q2).ext zb
    have hpk4 : H4 pk = some (.lst xs) := zb.on _ _ k1
    have gl4 : G4 l = none := zb.sep _ a2 (by rw [a3]; exact fun n => nomatch n)
    have xl : xs.length = row.length := dpa_len k2
    refine rk hl4 ⟨.int (j : Int), g4, pk, xs, (j : Int), j, rfl, rfl, hpk4, Evl.ixN_nat (by omega), ?_⟩
    have gp4 : ∀ p ∈ ps, G4 p = none := fun p hm => by
      obtain ⟨i, hi, rfl⟩ := List.getElem_of_mem hm
      obtain ⟨_, _, _, q, _⟩ := hL4 i rows[i] ps[i] (List.getElem?_eq_getElem (by omega)) (List.getElem?_eq_getElem hi)
      exact q
    have hp0 : ∀ p ∈ ps, H p = none := fun p hm => by
      obtain ⟨i, hi, rfl⟩ := List.getElem_of_mem hm
      obtain ⟨_, _, _, _, q⟩ := hL4 i rows[i] ps[i] (List.getElem?_eq_getElem (by omega)) (List.getElem?_eq_getElem hi)
      exact q
    have hh0 : ∀ p ∈ ps, H0 p = none := fun p hm => x.freshH (hp0 p hm)
    have hl0 : H0 l = none := x.freshH a1
    generalize hH5 : upd H4 pk (.lst (xs.set j v)) = H5
    have n5 : ∀ c, c ≠ pk → H5 c = H4 c := fun c hc => by rw [← hH5, upd_ne hc]
    have e5 : H5 pk = some (.lst (xs.set j v)) := by rw [← hH5]; exact upd_same
    have hlk : l ≠ pk := fun e => by subst e; exact hlp hpm
    have hG6 : ∃ G6 : Hp, G6 l = H5 l ∧ (∀ p ∈ ps, G6 p = H5 p) ∧ ∀ c, c ≠ l → c ∉ ps → G6 c = G4 c := ⟨fun c => if c = l ∨ c ∈ ps then H5 c else G4 c, by simp, fun p hm => by simp [hm], fun c h1 h2 => by simp [h1, h2]⟩
    obtain ⟨G6, w1, w2, w3⟩ := hG6
    have ex46 : Ex G4 G6 := fun c o e => by
      rw [w3 c (fun n => by subst n; rw [gl4] at e; cases e) fun n => by rw [gp4 c n] at e; cases e]
      exact e
    have sub6 : Ex G6 H5 := fun c o e => by
      by_cases h1 : c = l
      · subst h1; rw [← w1]; exact e
      · by_cases h2 : c ∈ ps
        · rw [← w2 c h2]; exact e
        · rw [w3 c h1 h2] at e
          rw [n5 c fun n => by subst n; exact h2 hpm]
          exact b.sub c o e
    have x4 : Ext G0 G4 H0 H4 := ((x.trans y).trans zb)
    have x6 : Ext G0 G6 H0 H5 := ⟨x4.ex.trans ex46, sub6, fun c o e => by
      rw [n5 c fun n => by subst n; rw [hh0 c hpm] at e; cases e]
      exact x4.on c o e, fun c q1 q2 => by
      rw [w3 c (fun n => by subst n; exact q2 hl0) fun n => q2 (hh0 c n)]
      exact x4.sep c q1 q2⟩
    have hd5 : Dp K G6 (.ref l) (.list ((rows.set k (row.set j e)).map .list)) := by
      refine .lst (.inl (.inl (by rw [w1, n5 l hlk]; exact hl4))) ?_
      have gen : ∀ (qs : List Addr) (rs : List (List PyData)), qs.length = rs.length → (∀ (i : Nat) (r : List PyData) (p : Addr), rs[i]? = some r → qs[i]? = some p → Dp K G6 (.ref p) (.list r)) → DpAll K G6 (qs.map V.ref) (rs.map .list) := by
        intro qs
        induction qs with
        | nil => intro rs hl _; cases rs with
          | nil => exact .nil
          | cons a b => cases hl
        | cons q qs ih => intro rs hl hh; cases rs with
          | nil => cases hl
          | cons r rs => exact .cons (hh 0 r q rfl rfl) (ih rs (by simpa using hl) fun i r p h1 h2 => hh (i + 1) r p h1 h2)
      refine gen ps _ (by rw [List.length_set]; exact hpl) fun i r p q1 q2 => ?_
      have him : p ∈ ps := List.mem_of_getElem? q2
      by_cases hik : k = i
      · subst hik
        rw [List.getElem?_set_self hkl] at q1
        cases q1
        rw [hpk] at q2
        cases q2
        exact .lst (.inl (.inl (by rw [w2 pk hpm]; exact e5))) (dpa_set j (dp_mono ex46 _ _ hv) (dpa_mono (zb.ex.trans ex46) _ _ k2))
      · rw [List.getElem?_set_ne hik] at q1
        obtain ⟨ys, b1, b2, b3, b4⟩ := hL4 i r p q1 q2
        have npk : p ≠ pk := fun n => by
          subst n
          have hi : i < ps.length := (List.getElem?_eq_some_iff.mp q2).1
          have r1 := List.getElem?_eq_some_iff.mp q2
          have r2 := List.getElem?_eq_some_iff.mp hpk
          have hz := List.pairwise_iff_getElem.mp hnd
          rcases Nat.lt_or_gt_of_ne hik with hlt | hlt
          · exact hz k i hkp hi hlt (r2.2.trans r1.2.symm)
          · exact hz i k hi hkp hlt (r1.2.trans r2.2.symm)
        exact .lst (.inl (.inl (by rw [w2 p him, n5 p npk]; exact b1))) (dpa_mono ex46 _ _ b2)
    have E6 : EnvG K H0 G6 H5 (σ.set i5 (some (V.ref l))) (ρ.set i5 (.dat (.list ((rows.set k (row.set j e)).map .list)))) := by
      refine ⟨sub6, by rw [E4.len, List.length_set, List.length_set], fun i s hs => ?_, fun i i' s t q hii q1 q2 c1 c2 => ?_⟩
      · by_cases hi : i5 = i
        · subst hi
          rw [List.getElem?_set_self h5] at hs
          cases hs
          exact ⟨_, g5, _, rfl, hd5⟩
        · rw [List.getElem?_set_ne hi] at hs
          obtain ⟨z4, hz4, ok4⟩ := E4.slot i s (by rw [List.getElem?_set_ne hi]; exact hs)
          obtain ⟨z0, hz0, ok0⟩ := E.slot i s hs
          rw [List.getElem?_set_ne hi, hz0] at hz4
          cases hz4
          refine ⟨_, by rw [List.getElem?_set_ne hi]; exact hz0, ?_⟩
          cases s with
          | no => trivial
          | dat d => obtain ⟨v, b1, b2⟩ := ok4; exact ⟨v, b1, dp_mono ex46 _ _ b2⟩
          | lv ds =>
            obtain ⟨l2, ys, b1, b2, b3, b4, b5⟩ := ok4
            obtain ⟨l3, zs, c1, c2, _⟩ := ok0
            rw [b1] at c1
            cases c1
            have n1 : l2 ≠ l := fun n => by subst n; rw [a1] at c2; cases c2
            have n2 : l2 ∉ ps := fun n => by rw [hp0 l2 n] at c2; cases c2
            exact ⟨l2, ys, b1, by rw [n5 l2 fun n => by subst n; exact n2 hpm]; exact b2, by rw [w3 l2 n1 n2]; exact b3, b4, dpa_mono ex46 _ _ b5⟩
          | cel u ds =>
            obtain ⟨b1, ⟨ys, b2, b5⟩, b3, b4⟩ := ok4
            obtain ⟨c1, ⟨zs, c2, _⟩, _⟩ := ok0
            have n1 : u ≠ l := fun n => by subst n; rw [a1] at c2; cases c2
            have n2 : u ∉ ps := fun n => by rw [hp0 u n] at c2; cases c2
            exact ⟨b1, ⟨ys, by rw [n5 u fun n => by subst n; exact n2 hpm]; exact b2, dpa_mono ex46 _ _ b5⟩, by rw [w3 u n1 n2]; exact b3, b4⟩
      · have back : ∀ {m : Nat} {s : SD}, (ρ.set i5 (.dat (.list ((rows.set k (row.set j e)).map .list))))[m]? = some s → s.cell = true → (ρ.set i5 .no)[m]? = some s := fun {m s} q c => by
          by_cases hm : i5 = m
          · subst hm
            rw [List.getElem?_set_self h5] at q
            cases q
            cases c
          · rw [List.getElem?_set_ne hm] at q ⊢
            exact q
        exact E4.dis i i' s t q hii (back q1 c1) (back q2 c2) c1 c2
    exact h e hr G0 H0 G6 H5 _ D E6 x6 rt nx bk ct
end
end My
/-! the calculus: enumerate of a list, a place of a live list, a def that hands back a new list -/
namespace My
open PySem PySem.Spec PyProof.Rows L2
open Evl (Ex)
section
variable {K : PySem.W.Frag} {ρ : Ro} {ta tb te : TE} {c d : PyData} {ds es : List PyData} {i j k n : Nat} {u p : Addr} {RT : Ro → PyData → Prop} {NX BK CT : Ro → Prop}
theorem ei_enum (h : EvD K ta ρ (.list ds)) : EvI K (iEnum K (tCons ta tNil)) ρ (enumD ds) := fun B G H σ R E q => h B G H σ _ E fun v G2 H2 x r => by
  obtain ⟨a, xs, rfl, a1, a2⟩ := dp_lst r
  have hl := dpa_len a2
  have he := enumD_len (ds := ds)
  refine ⟨a, xs, rfl, Evl.ex_l x.sub a1, q _ G2 H2 x ⟨fun i H hi e => ?_, fun H e => ⟨xs, Evl.ex_l e a1, by omega⟩, fun i H v H' hi e y => ?_⟩⟩
  · exact ⟨xs, xs[i]'(by omega), Evl.ex_l e a1, by simp [show i < xs.length by omega]⟩
  · obtain ⟨T, u, rfl, hT, rfl, f1⟩ := y
    have h1 : i < ds.length := by omega
    obtain ⟨u', p1, p2⟩ := dpa_get a2 (List.getElem?_eq_getElem h1)
    have e1 := f1 xs (Evl.ex_l e a1)
    rw [p1] at e1
    cases e1
    obtain ⟨G', z1, z2⟩ := pair_ext e hT (.int (i : Int)) p2
    exact ⟨G', _, z1, enumD_get (List.getElem?_eq_getElem h1), z2⟩
theorem ed_ixM (h : ρ[i]? = some (.lv ds)) (hb : EvD K tb ρ (.int (j : Int))) (hd : ds[j]? = some d) : EvD K (tOp (rIx K) (tVar i) tb) ρ d := fun B G H σ Q E q => by
  obtain ⟨x, hx, l, xs, rfl, hH, hG, hB, hx2⟩ := E.slot i _ h
  refine ⟨.ref l, hx, hb B G H σ _ E fun w G2 H2 z hw => ?_⟩
  obtain ⟨v, h3, h4⟩ := dpa_get hx2 hd
  exact .inl ⟨l, xs, (j : Int), v, rfl, dp_int hw, .inl (.inl (z.on _ _ hH)), atI_nat h3, q v G2 H2 z (dp_mono z.ex _ _ h4)⟩
theorem r_setM {t : Nat} (hi : ρ[i]? = some (.lv ds)) (ht : ρ[t]? = some (.dat (.int (j : Int)))) (h : EvD K te ρ d) (hj : j < ds.length) (q : NX (ρ.set i (.lv (ds.set j d)))) : Runs K (tAsg te (gSub (tVar i) (tVar t) rSetL)) ρ RT NX BK CT := fun G0 H0 G H σ D E x rt nx bk ct => h H0 G H σ _ E fun v G2 H2 y hd => by
  have E2 := E.ext y
  obtain ⟨z, hz, l, xs, rfl, hH, hG, hB, hx2⟩ := E2.slot i _ hi
  obtain ⟨z2, hz2, w, rfl, hw⟩ := E2.slot t _ ht
  refine ⟨.ref l, hz, w, hz2, l, xs, (j : Int), j, rfl, dp_int hw, hH, Evl.ixN_nat (by rw [dpa_len hx2]; exact hj), ?_⟩
  have w := x.trans y
  refine nx _ G2 _ σ q (E2.mutate hi hz (dpa_set j hd hx2)) ?_
  exact ⟨w.ex, fun a o e => by rw [upd_ne fun n => by subst n; rw [hG] at e; cases e]; exact w.sub a o e, fun a o e => by rw [upd_ne fun n => by subst n; rw [hB] at e; cases e]; exact w.on a o e, w.sep⟩
/-- a block that hands back a new list -/
def RunsL (K : PySem.W.Frag) (t : TS) (ρ : Ro) (R : List PyData → Prop) : Prop := ∀ (G0 H0 G H : Hp) (σ : L2.St) (D : Ends), EnvG K H0 G H σ ρ → Ext G0 G H0 H →
  (∀ p xs es G2 H2, R es → Ext G0 G2 H0 H2 → H0 p = none → G2 p = none → H2 p = some (.lst xs) → DpAll K G2 xs es → D.rt (.ref p) H2) → t D σ H
theorem rl_ret {R : List PyData → Prop} (h : EvL K te ρ es) (k : R es) : RunsL K (tRet te) ρ R := fun G0 H0 G H σ D E x rt => h H0 G H σ _ E fun p xs G2 H2 y a1 a2 a3 a4 => rt p xs es G2 H2 k (x.trans y) (x.freshH a1) a2 a3 a4
theorem rl_set {R : List PyData → Prop} {t : TS} (h : EvD K te ρ d) (k : RunsL K t (ρ.set i (.dat d)) R) : RunsL K (tSeq (tAsg te (gName i)) t) ρ R := fun G0 H0 G H σ D E x rt => h H0 G H σ _ E fun v G2 H2 y hd => k G0 H0 G2 H2 _ D ((E.ext y).setD hd) (x.trans y) rt
def spN (K : PySem.W.Frag) {α : Type} (enc : α → List PyData) (Pre : α → Prop) (R : α → List PyData → Prop) : Sp := fun vs H Q _ => ∃ (a : α) (G : Hp), Ex G H ∧ DpAll K G vs (enc a) ∧ Pre a ∧ ∀ p xs es G2 H2, R a es → Ext G G2 H H2 → H p = none → G2 p = none → H2 p = some (.lst xs) → DpAll K G2 xs es → Q (.ref p) H2
/-- an urn's def, its urn a new list -/
theorem ep_new {α β : Type} {enc : α → List PyData} {Pre : α → Prop} {R : α → List PyData → Prop} {enc2 : β → List PyData} {Pre2 : β → Prop} {cost : β → Nat} {R2 : β → PyData → Prop} {tr : TA} {E0 E1 : XK} (a : α) (b : β) (ha : EvA K tr ρ (enc a)) (hp : Pre a) (hb : enc2 b = []) (hp2 : Pre2 b) (hu : ∀ es, R a es → UrnOk n es) (hc : n + cost b ≤ 1000000) :
    EvP K (tCall (spU K enc2 Pre2 cost R2) [] E1 (tCons (tCall (spN K enc Pre R) [] E0 tr) tNil)) ρ (R2 b) := fun B G H σ Q E q => ha B G H σ _ E fun vs G2 H2 x hv => by
  refine ⟨a, G2, x.sub, by rw [List.append_nil]; exact hv, hp, fun p xs es G3 H3 hr y a1 a2 a3 a4 => ?_⟩
  refine ⟨b, G3, p, n, es, xs, [], rfl, y.sub, a2, a3, a4, hu es hr, hc, by rw [hb]; exact .nil, hp2, fun v d G4 H4 h2 z nw hd => ?_⟩
  have w := x.trans y
  have hn : H p = none := x.freshH a1
  refine q v d G4 H4 h2 ⟨w.ex.trans z.ex, z.sub, fun c o e => z.on c o (fun h => by subst h; rw [hn] at e; cases e) (w.on c o e), fun c h1 h2 => z.sep c (w.sep c h1 h2) fun e => ?_⟩ hd
  cases q2 : H c with
  | none => exact h2 q2
  | some o => rw [w.on c o q2] at e; cases e
end
section
variable {P : Program} {w : World} {K : PySem.W.Frag} {mg : Str → Option Value} {base : Heap}
theorem fn_n {α : Type} {enc : α → List PyData} {Pre : α → Prop} {R : α → List PyData → Prop} {x qual : Str} {st : Stmt} {f : Addr} {fd : FuncData} {N ps : List Str} {k : Nat} (F : Fun K x qual st f fd) (S : FnScope N ps (defScope st)) (hl : ∀ a, Pre a → (enc a).length = ps.length) (hN : ps.length ≤ N.length)
    (h : ∀ (cdv : Value) (A : Around) (outer : List Env) (s : Shared) (H : Hp) (E : XK), Room k (A.deeper (envOfC qual (defScope st) s.heap.objs.size f cdv)) → ∃ t, PSs (cxOf CX0 P w K mg base N qual (defScope st) f cdv A outer s H E).nox (defBody st) t ∧
      ∀ a, Pre a → RunsL K t ((enc a).map SD.dat ++ List.replicate (N.length - (enc a).length) SD.no) (R a)) : FnOk P w K mg base CX0 (k + 1) f fd ps (spN K enc Pre R) := by
  refine F.ok S (fun vs H Q E hsp => ?_) (fun cdv A outer s H vs Q E hr hsp => ?_)
  · obtain ⟨a, G, hg, hd, hp, _⟩ := hsp
    rw [dpa_len hd]
    exact hl a hp
  · obtain ⟨a, G, hg, hd, hp, q⟩ := hsp
    obtain ⟨t, ht, hrun⟩ := h cdv A outer s H E hr
    refine ⟨t, ht, ?_⟩
    exact hrun a hp G H G H _ _ (start_env hg hd (by rw [hl a hp]; exact hN)) (.refl hg) fun p xs es G2 H2 hR y a1 a2 a3 a4 => q p xs es G2 H2 hR y a1 a2 a3 a4
end
end My
/-! the text: each def's place, its slots -/
namespace My
open PySem PySem.Spec PyProof.Rows L2
def topS (i : Nat) : Stmt := PySem.Challenge.pw_everychange_k64_whole_matchings_by_all_o.main.body.getD i (.Pass ⟨0, 0, 0, 0⟩)
abbrev s_is_number : Stmt := topS 3
theorem sc_is_number : FnScope ["thing"] ["thing"] (defScope s_is_number) := ⟨rfl, rfl, rfl, by decide +kernel, rfl, by decide +kernel, by decide +kernel⟩
abbrev s_tuple_of : Stmt := topS 4
theorem sc_tuple_of : FnScope ["thing", "part"] ["thing"] (defScope s_tuple_of) := ⟨rfl, rfl, rfl, by decide +kernel, rfl, by decide +kernel, by decide +kernel⟩
abbrev s_has_one_tell : Stmt := topS 6
theorem sc_has_one_tell : FnScope ["sheet", "first"] ["sheet"] (defScope s_has_one_tell) := ⟨rfl, rfl, rfl, by decide +kernel, rfl, by decide +kernel, by decide +kernel⟩
abbrev s_tells_of : Stmt := topS 7
theorem sc_tells_of : FnScope ["sheet"] ["sheet"] (defScope s_tells_of) := ⟨rfl, rfl, rfl, by decide +kernel, rfl, by decide +kernel, by decide +kernel⟩
abbrev s__like : Stmt := topS 8
theorem sc__like : FnScope ["sheet", "matrices", "tells"] ["sheet", "matrices", "tells"] (defScope s__like) := ⟨rfl, rfl, rfl, by decide +kernel, rfl, by decide +kernel, by decide +kernel⟩
abbrev s__row_renamed : Stmt := topS 9
theorem sc__row_renamed : FnScope ["row", "order", "k"] ["row", "order"] (defScope s__row_renamed) := ⟨rfl, rfl, rfl, by decide +kernel, rfl, by decide +kernel, by decide +kernel⟩
abbrev s__renamed : Stmt := topS 10
theorem sc__renamed : FnScope ["sheet", "order", "matrices", "tells", "matrix", "tell", "k", "row"] ["sheet", "order"] (defScope s__renamed) := ⟨rfl, rfl, rfl, by decide +kernel, rfl, by decide +kernel, by decide +kernel⟩
abbrev s_renamed : Stmt := topS 11
theorem sc_renamed : FnScope ["sheet", "order"] ["sheet", "order"] (defScope s_renamed) := ⟨rfl, rfl, rfl, by decide +kernel, rfl, by decide +kernel, by decide +kernel⟩
abbrev s_stages_of : Stmt := topS 13
theorem sc_stages_of : FnScope ["sheet"] ["sheet"] (defScope s_stages_of) := ⟨rfl, rfl, rfl, by decide +kernel, rfl, by decide +kernel, by decide +kernel⟩
abbrev s_marks_of : Stmt := topS 14
theorem sc_marks_of : FnScope ["sheet", "stage", "weights", "found", "matrix", "column", "tell", "row"] ["sheet", "stage"] (defScope s_marks_of) := ⟨rfl, rfl, rfl, by decide +kernel, rfl, by decide +kernel, by decide +kernel⟩
abbrev s_fits_so_far : Stmt := topS 15
theorem sc_fits_so_far : FnScope ["sheet", "other", "order", "at", "own", "matrix", "goal", "k", "stage"] ["sheet", "other", "order"] (defScope s_fits_so_far) := ⟨rfl, rfl, rfl, by decide +kernel, rfl, by decide +kernel, by decide +kernel⟩
abbrev s_order_from : Stmt := topS 16
theorem sc_order_from : FnScope ["sheet", "other", "choices", "order", "stage", "found"] ["sheet", "other", "choices", "order"] (defScope s_order_from) := ⟨rfl, rfl, rfl, by decide +kernel, rfl, by decide +kernel, by decide +kernel⟩
abbrev s_matching : Stmt := topS 17
theorem sc_matching : FnScope ["sheet", "other", "own", "goal", "many", "marks", "choices", "stage", "k"] ["sheet", "other"] (defScope s_matching) := ⟨rfl, rfl, rfl, by decide +kernel, rfl, by decide +kernel, by decide +kernel⟩
abbrev s_is_matching : Stmt := topS 18
theorem sc_is_matching : FnScope ["sheet", "other", "thing", "own", "k"] ["sheet", "other", "thing"] (defScope s_is_matching) := ⟨rfl, rfl, rfl, by decide +kernel, rfl, by decide +kernel, by decide +kernel⟩
abbrev s__law_box : Stmt := topS 20
theorem sc__law_box : FnScope ["_law_script", "_law_k", "_law_bit_so"] ["_law_script", "_law_k"] (defScope s__law_box) := ⟨rfl, rfl, rfl, by decide +kernel, rfl, by decide +kernel, by decide +kernel⟩
abbrev s__law_take : Stmt := topS 21
theorem sc__law_take : FnScope ["_law_urn", "_law_low_so", "_law_once", "_law_far", "_law_twice", "_law_drawn"] ["_law_urn", "_law_low_so"] (defScope s__law_take) := ⟨rfl, rfl, rfl, by decide +kernel, rfl, by decide +kernel, by decide +kernel⟩
abbrev s__law_cells : Stmt := topS 22
theorem sc__law_cells : FnScope ["_law_script", "_law_roof_so", "_law_bits_so", "_law_k", "_law_bit_so", "_law_at_so"] ["_law_script", "_law_roof_so"] (defScope s__law_cells) := ⟨rfl, rfl, rfl, by decide +kernel, rfl, by decide +kernel, by decide +kernel⟩
abbrev s__law_of : Stmt := topS 23
theorem sc__law_of : FnScope ["_law_urn", "_law_some_so"] ["_law_urn", "_law_some_so"] (defScope s__law_of) := ⟨rfl, rfl, rfl, by decide +kernel, rfl, by decide +kernel, by decide +kernel⟩
abbrev s__law_same : Stmt := topS 24
theorem sc__law_same : FnScope ["_law_near", "_law_goal", "_law_mine_so", "_law_own"] ["_law_near", "_law_goal"] (defScope s__law_same) := ⟨rfl, rfl, rfl, by decide +kernel, rfl, by decide +kernel, by decide +kernel⟩
abbrev s__law_low : Stmt := topS 25
theorem sc__law_low : FnScope ["_law_high_so", "_law_low_so", "_law_one_so", "_law_two_so"] ["_law_high_so", "_law_low_so"] (defScope s__law_low) := ⟨rfl, rfl, rfl, by decide +kernel, rfl, by decide +kernel, by decide +kernel⟩
abbrev s__law_add : Stmt := topS 26
theorem sc__law_add : FnScope ["_law_one_so", "_law_two_so"] ["_law_one_so", "_law_two_so"] (defScope s__law_add) := ⟨rfl, rfl, rfl, by decide +kernel, rfl, by decide +kernel, by decide +kernel⟩
abbrev s__law_order : Stmt := topS 27
theorem sc__law_order : FnScope ["_law_urn", "_law_many_so", "_law_left_so", "_law_found"] ["_law_urn", "_law_many_so"] (defScope s__law_order) := ⟨rfl, rfl, rfl, by decide +kernel, rfl, by decide +kernel, by decide +kernel⟩
abbrev s__law_told_named : Stmt := topS 28
theorem sc__law_told_named : FnScope ["_law_sheet_so", "_law_order_so", "_law_mats_so", "_law_own", "_law_k", "_law_row_so", "_law_j"] ["_law_sheet_so", "_law_order_so"] (defScope s__law_told_named) := ⟨rfl, rfl, rfl, by decide +kernel, rfl, by decide +kernel, by decide +kernel⟩
abbrev s__law_orders : Stmt := topS 29
theorem sc__law_orders : FnScope ["_law_many_so", "_law_found", "_law_k", "_law_longer_so", "_law_own", "_law_j"] ["_law_many_so"] (defScope s__law_orders) := ⟨rfl, rfl, rfl, by decide +kernel, rfl, by decide +kernel, by decide +kernel⟩
abbrev s__law_few : Stmt := topS 30
theorem sc__law_few : FnScope ["_law_urn", "_law_parts_so", "_law_many_so", "_law_menu_so", "_law_mats_so", "_law_part_so", "_law_tells_so", "_law_lap_so", "_law_rows_so", "_law_k", "_law_j"] ["_law_urn", "_law_parts_so", "_law_many_so"] (defScope s__law_few) := ⟨rfl, rfl, rfl, by decide +kernel, rfl, by decide +kernel, by decide +kernel⟩
abbrev s__law_changed : Stmt := topS 31
theorem sc__law_changed : FnScope ["_law_urn", "_law_sheet_so", "_law_many_so", "_law_k", "_law_j", "_law_rows_so", "_law_own"] ["_law_urn", "_law_sheet_so", "_law_many_so"] (defScope s__law_changed) := ⟨rfl, rfl, rfl, by decide +kernel, rfl, by decide +kernel, by decide +kernel⟩
abbrev s__law_by_hand_right : Stmt := topS 32
theorem sc__law_by_hand_right : FnScope ["_law_o", "_law_e", "_law_half", "_law_ring_so", "_law_back_so", "_law_mark_so", "_law_mine_so", "_law_due", "_law_flat_so", "_law_one_so", "_law_two_so", "_law_own"] [] (defScope s__law_by_hand_right) := ⟨rfl, rfl, rfl, by decide +kernel, rfl, by decide +kernel, by decide +kernel⟩
abbrev s__law_right : Stmt := topS 33
theorem sc__law_right : FnScope ["_law_urn", "_law_parts_so", "_law_many_so", "_law_sheet_so", "_law_other_so", "_law_orders_so", "_law_good_so", "_law_told_so", "_law_things_so", "_law_mine_so", "_law_own"] ["_law_urn"] (defScope s__law_right) := ⟨rfl, rfl, rfl, by decide +kernel, rfl, by decide +kernel, by decide +kernel⟩
abbrev s_law : Stmt := topS 34
theorem sc_law : FnScope ["_law_script"] ["_law_script"] (defScope s_law) := ⟨rfl, rfl, rfl, by decide +kernel, rfl, by decide +kernel, by decide +kernel⟩

/-- the built-in names that the text has not bound -/
structure Blt (mg : Str → Option Value) : Prop where
  b_len : mg "len" = none
  b_tuple : mg "tuple" = none
  b_list : mg "list" = none
  b_range : mg "range" = none
  b_sorted : mg "sorted" = none
  b_isinstance : mg "isinstance" = none
  b_int : mg "int" = none
  b_bool : mg "bool" = none
  b_str : mg "str" = none
  b_abs : mg "abs" = none
  b_all : mg "all" = none
  b_zip : mg "zip" = none
  b_enumerate : mg "enumerate" = none
theorem hu65 {A : Around} {k : Nat} (hr : Room k A) : A.units + 65 < cLine := by
  have := hr.un
  omega
/-! the rules, the written part told by its name -/
section
variable (K : PySem.W.Frag) {X : Cx} {a b e : Expr} {es : List Expr} {ta tb te : TE} {t : TA} {p pos tpos apos : Pos} {k : Nat}
theorem xe_ix (ha : PE X a ta) (hb : PE X b tb) (hs : PlainIx b := by intro _ _; rfl) (hK : X.K = K := by rfl) : PE X (.Subscript a b pos) (tOp (rIx K) ta tb) := by
  subst hK
  exact pe_ix ix_seq ha hb hs
theorem xe_sl {lo hi : Option Expr} {p2 : Pos} {tl th : TO} (he : PE X e te) (hl : PO X lo tl) (hu : PO X hi th) (hK : X.K = K := by rfl) : PE X (.Subscript e (.Slice lo hi none p2) pos) (tSl (rSlS K) te tl th) := by
  subst hK
  exact pe_slice sl_any he hl hu
theorem xe_add (ha : PE X a ta) (hb : PE X b tb) (hK : X.K = K := by rfl) : PE X (.BinOp a .Add b pos) (tOp (rAddA K) ta tb) := by
  subst hK
  exact pe_op op_addA ha hb
theorem xe_eq (hr : Room k X.A) (ha : PE X a ta) (hb : PE X b tb) (hK : X.K = K := by rfl) : PE X (.Compare a [.Eq] [b] pos) (tOp (rEqD K) ta tb) := by
  subst hK
  exact pe_cmpR (op_eqD hr.units) ha hb (nomark _)
theorem xe_ne (hr : Room k X.A) (ha : PE X a ta) (hb : PE X b tb) (hK : X.K = K := by rfl) : PE X (.Compare a [.NotEq] [b] pos) (tOp (rNeD K) ta tb) := by
  subst hK
  exact pe_cmpR (op_neD hr.units) ha hb (nomark _)
theorem xe_in (hr : Room k X.A) (ha : PE X a ta) (hb : PE X b tb) (hm : behindInMarks .In b = false := by rfl) (hK : X.K = K := by rfl) : PE X (.Compare a [.In] [b] pos) (tOp (Gap.rInS K false) ta tb) := by
  subst hK
  exact pe_cmpR (Gap.op_inS (hu65 hr)) ha hb hm
theorem xe_nin (hr : Room k X.A) (ha : PE X a ta) (hb : PE X b tb) (hm : behindInMarks .NotIn b = false := by rfl) (hK : X.K = K := by rfl) : PE X (.Compare a [.NotIn] [b] pos) (tOp (Gap.rInS K true) ta tb) := by
  subst hK
  exact pe_cmpR (Gap.op_notInS (hu65 hr)) ha hb hm
theorem xt_eq (hr : Room k X.A) (ha : PE X a ta) (hb : PE X b tb) (hK : X.K = K := by rfl) : PT X (.Compare a [.Eq] [b] pos) (tTest (tOp (rEqD K) ta tb)) := by
  subst hK
  exact pt_cmpR (op_eqD hr.units) ha hb (nomark _)
theorem xt_ne (hr : Room k X.A) (ha : PE X a ta) (hb : PE X b tb) (hK : X.K = K := by rfl) : PT X (.Compare a [.NotEq] [b] pos) (tTest (tOp (rNeD K) ta tb)) := by
  subst hK
  exact pt_cmpR (op_neD hr.units) ha hb (nomark _)
theorem xt_in (hr : Room k X.A) (ha : PE X a ta) (hb : PE X b tb) (hm : behindInMarks .In b = false := by rfl) (hK : X.K = K := by rfl) : PT X (.Compare a [.In] [b] pos) (tTest (tOp (Gap.rInS K false) ta tb)) := by
  subst hK
  exact pt_cmpR (Gap.op_inS (hu65 hr)) ha hb hm
theorem xt_nin (hr : Room k X.A) (ha : PE X a ta) (hb : PE X b tb) (hm : behindInMarks .NotIn b = false := by rfl) (hK : X.K = K := by rfl) : PT X (.Compare a [.NotIn] [b] pos) (tTest (tOp (Gap.rInS K true) ta tb)) := by
  subst hK
  exact pt_cmpR (Gap.op_notInS (hu65 hr)) ha hb hm
variable {mg : Str → Option Value}
theorem xe_len (B : Blt mg) (ha : PA X (e :: es) t) (hg : Gl X "len" := by rfl) (hpl : (backTo pos (starEach es X.env)).any (·.1) = false := by rfl) (hs : starEach (e :: es) X.env = (false, eval e X.env) :: starEach es X.env := by rfl) (hm : X.mg = mg := by rfl) (hK : X.K = K := by rfl) :
    PE X (.Call (.Name "len" p) (e :: es) [] pos) (tCB (rLenQ K) t) := by
  subst hK hm
  exact pe_callB call_lenQ hg B.b_len (by decide +kernel) ha (by decide) (by decide) hs hpl
theorem xe_tuple (B : Blt mg) (ha : PA X (e :: es) t) (hg : Gl X "tuple" := by rfl) (hpl : (backTo pos (starEach es X.env)).any (·.1) = false := by rfl) (hs : starEach (e :: es) X.env = (false, eval e X.env) :: starEach es X.env := by rfl) (hm : X.mg = mg := by rfl) (hK : X.K = K := by rfl) :
    PE X (.Call (.Name "tuple" p) (e :: es) [] pos) (tCB (rTupQ K) t) := by
  subst hK hm
  exact pe_callTy call_tupQ hg B.b_tuple (by decide +kernel) ha (by decide) (by decide) hs hpl
theorem xe_list (B : Blt mg) (ha : PA X (e :: es) t) (hg : Gl X "list" := by rfl) (hpl : (backTo pos (starEach es X.env)).any (·.1) = false := by rfl) (hs : starEach (e :: es) X.env = (false, eval e X.env) :: starEach es X.env := by rfl) (hm : X.mg = mg := by rfl) (hK : X.K = K := by rfl) :
    PE X (.Call (.Name "list" p) (e :: es) [] pos) (tCB (rLstQ K) t) := by
  subst hK hm
  exact pe_callTy call_lstQ hg B.b_list (by decide +kernel) ha (by decide) (by decide) hs hpl
theorem xe_sorted {β : Type} (enc : β → PyData) (hr : Room k X.A) (B : Blt mg) (ha : PA X (e :: es) t) (hg : Gl X "sorted" := by rfl) (hpl : (backTo pos (starEach es X.env)).any (·.1) = false := by rfl) (hs : starEach (e :: es) X.env = (false, eval e X.env) :: starEach es X.env := by rfl) (hm : X.mg = mg := by rfl) (hK : X.K = K := by rfl) :
    PE X (.Call (.Name "sorted" p) (e :: es) [] pos) (tCB (Gap.rSortS K enc) t) := by
  subst hK hm
  exact pe_callB (Gap.cr_sortS enc hr.units) hg B.b_sorted (by decide +kernel) ha (by decide) (by decide) hs hpl
theorem xe_isi (B : Blt mg) (ha : PA X (e :: es) t) (hg : Gl X "isinstance" := by rfl) (hpl : (backTo pos (starEach es X.env)).any (·.1) = false := by rfl) (hs : starEach (e :: es) X.env = (false, eval e X.env) :: starEach es X.env := by rfl) (hm : X.mg = mg := by rfl) (hK : X.K = K := by rfl) :
    PE X (.Call (.Name "isinstance" p) (e :: es) [] pos) (tCB (rIsi K) t) := by
  subst hK hm
  exact pe_callB call_isi hg B.b_isinstance (by decide +kernel) ha (by decide) (by decide) hs hpl
theorem xe_isiT (B : Blt mg) (ha : PA X (e :: es) t) (hg : Gl X "isinstance" := by rfl) (hpl : (backTo pos (starEach es X.env)).any (·.1) = false := by rfl) (hs : starEach (e :: es) X.env = (false, eval e X.env) :: starEach es X.env := by rfl) (hm : X.mg = mg := by rfl) (hK : X.K = K := by rfl) :
    PE X (.Call (.Name "isinstance" p) (e :: es) [] pos) (tCB (rIsiT K) t) := by
  subst hK hm
  exact pe_callB call_isiT hg B.b_isinstance (by decide +kernel) ha (by decide) (by decide) hs hpl
theorem xe_all (B : Blt mg) (ha : PA X (e :: es) t) (hc : X.calm = true := by rfl) (hg : Gl X "all" := by rfl) (hpl : (backTo pos (starEach es X.env)).any (·.1) = false := by rfl) (hs : starEach (e :: es) X.env = (false, eval e X.env) :: starEach es X.env := by rfl) (hm : X.mg = mg := by rfl) (hK : X.K = K := by rfl) :
    PE X (.Call (.Name "all" p) (e :: es) [] pos) (tCB (rAll K) t) := by
  subst hK hm
  exact pe_callB (cr_all hc) hg B.b_all (by decide +kernel) ha (by decide) (by decide) hs hpl
theorem xe_abs (B : Blt mg) (ha : PA X (e :: es) t) (hg : Gl X "abs" := by rfl) (hpl : (backTo pos (starEach es X.env)).any (·.1) = false := by rfl) (hs : starEach (e :: es) X.env = (false, eval e X.env) :: starEach es X.env := by rfl) (hm : X.mg = mg := by rfl) :
    PE X (.Call (.Name "abs" p) (e :: es) [] pos) (tCB rAbs t) := by
  subst hm
  exact pe_callB call_abs' hg B.b_abs (by decide +kernel) ha (by decide) (by decide) hs hpl
theorem xe_int (B : Blt mg) (ha : PA X (e :: es) t) (hg : Gl X "int" := by rfl) (hpl : (backTo pos (starEach es X.env)).any (·.1) = false := by rfl) (hs : starEach (e :: es) X.env = (false, eval e X.env) :: starEach es X.env := by rfl) (hm : X.mg = mg := by rfl) :
    PE X (.Call (.Name "int" p) (e :: es) [] pos) (tCB rInt1 t) := by
  subst hm
  exact pe_callTy call_int' hg B.b_int (by decide +kernel) ha (by decide) (by decide) hs hpl
theorem xe_listRg {q : Pos} (B : Blt mg) (ha : PE X a ta) (hc : X.calm = true := by rfl) (hg : Gl X "list" := by rfl) (hg2 : Gl X "range" := by rfl) (hm : X.mg = mg := by rfl) (na : starEach [a] X.env = (false, eval a X.env) :: starEach [] X.env := by rfl)
    (nb : starEach [.Call (.Name "range" q) [a] [] tpos] X.env = (false, eval (.Call (.Name "range" q) [a] [] tpos) X.env) :: starEach [] X.env := by rfl) :
    PE X (.Call (.Name "list" p) [.Call (.Name "range" q) [a] [] tpos] [] pos) (tLstRg (tRg1 ta)) := by
  subst hm
  exact pe_listRg hc hg B.b_list (prg_1 hg2 B.b_range ha na) nb
theorem xe_ty {x T : String} (hb : bootBuiltins (Str.ofString x) = some (.type T)) (hm : X.mg (Str.ofString x) = none) (hg : Gl X (Str.ofString x) := by rfl) (hn : (Str.ofString x) ≠ "__name__" := by decide) (hd : ((Str.ofString x) == ("__debug__" : Str)) = false := by decide) : PE X (.Name (Str.ofString x) pos) (tC (.ty T)) :=
  pe_bltn hg hm hb rfl hn hd
theorem xe_or {rest : List Expr} (ha : PE X a ta) (hb : PE X (.BoolOp .Or (b :: rest) pos) tb) (hK : X.K = K := by rfl) : PE X (.BoolOp .Or (a :: b :: rest) pos) (tOrT K ta tb) := by
  subst hK
  exact pe_orT ha hb
theorem xi_seq {tg l : Expr} {tl : TE} (h : PE X l tl) (hK : X.K = K := by rfl) : PI X tg l (iSeq K tl) := by
  subst hK
  exact pi_seq h
theorem xi_range {tg : Expr} (B : Blt mg) (ha : PA X [a] t) (hg : Gl X "range" := by rfl) (hm : X.mg = mg := by rfl) (hs : starEach [a] X.env = [(false, eval a X.env)] := by rfl) : PI X tg (.Call (.Name "range" p) [a] [] pos) (iRng1 t) := by
  subst hm
  exact pi_range1 hg B.b_range ha hs
theorem xi_zip {elts : List Expr} {kk : Nat} (B : Blt mg) (ha : PA X [a, b] t) (hg : Gl X "zip" := by rfl) (hm : X.mg = mg := by rfl) (hK : X.K = K := by rfl) (hs : starEach [a, b] X.env = (false, eval a X.env) :: starEach [b] X.env := by rfl) (hpl : (backTo pos (starEach [b] X.env)).any (·.1) = false := by rfl) :
    PI X (.Tuple elts kk tpos) (.Call (.Name "zip" p) [a, b] [] pos) (RZ.iZipA K t) := by
  subst hm hK
  exact RZ.pi_zipA hg B.b_zip ha hs hpl
theorem xi_enumT {elts : List Expr} {kk : Nat} (B : Blt mg) (ha : PA X [e] t) (hg : Gl X "enumerate" := by rfl) (hm : X.mg = mg := by rfl) (hK : X.K = K := by rfl) (hs : starEach [e] X.env = [(false, eval e X.env)] := by rfl) :
    PI X (.Tuple elts kk tpos) (.Call (.Name "enumerate" p) [e] [] pos) (Gap.iEnumT K t) := by
  subst hm hK
  exact Gap.pi_enumT hg B.b_enumerate ha hs
theorem xi_enum {elts : List Expr} {kk : Nat} (B : Blt mg) (ha : PA X [e] t) (hg : Gl X "enumerate" := by rfl) (hm : X.mg = mg := by rfl) (hK : X.K = K := by rfl) (hs : starEach [e] X.env = [(false, eval e X.env)] := by rfl) :
    PI X (.Tuple elts kk tpos) (.Call (.Name "enumerate" p) [e] [] pos) (iEnum K t) := by
  subst hm hK
  exact pi_enum hg B.b_enumerate ha hs
theorem xa_star (he : PE X e te) (hr : PA X es t) (hs : starEach (.Starred e p :: es) X.env = (true, eval e X.env) :: starEach es X.env := by rfl) (hK : X.K = K := by rfl) : PA X (.Starred e p :: es) (StX.tStar K te t) := by
  subst hK
  exact StX.pa_star he hr hs
theorem xg_tup {n : Nat} {kk : Nat} {tt : TGs} (h : PGs X es tt) (hc : X.calm = true := by rfl) (hn : (assignEach es X.env).length = n := by rfl) (hst : (assignEach es X.env).findIdx? (·.1) = none := by rfl) (hK : X.K = K := by rfl) : PG X (.Tuple es kk pos) (gTup K n tt) := by
  subst hK
  exact pg_tup hc h hn hst
end
end My
/-! the mathematics: sheets as data -/
namespace My
open PySem
abbrev Fr := Int × Int
def dF (f : Fr) : PyData := .tuple [.int f.1, .int f.2]
abbrev Rw := List Fr
def dR (r : Rw) : PyData := .tuple (r.map dF)
abbrev Mx := List Rw
def dM (m : Mx) : PyData := .tuple (m.map dR)
def dMs (ms : List Mx) : PyData := .tuple (ms.map dM)
structure Sheet where
  mats : List Mx
  tells : List Mx
deriving DecidableEq
def dS (s : Sheet) : PyData := .tuple [dMs s.mats, dMs s.tells]
def dNt (k : Nat) : PyData := .int (k : Int)
def dO (o : List Nat) : PyData := .tuple (o.map dNt)
def dB (b : Bool) : PyData := .bool b

/-! ### equality -/
def EqE {α : Type} [DecidableEq α] (enc : α → PyData) : Prop := ∀ a b, PyData.eqv (enc a) (enc b) = decide (a = b)
theorem eqvAll_map {α : Type} [DecidableEq α] {enc : α → PyData} (h : EqE enc) : ∀ l m : List α, PyData.eqvAll (l.map enc) (m.map enc) = decide (l = m)
  | [], [] => by simp [PyData.eqvAll]
  | [], b :: m => by simp [PyData.eqvAll]
  | a :: l, [] => by simp [PyData.eqvAll]
  | a :: l, b :: m => by
    show PyData.eqvAll (enc a :: l.map enc) (enc b :: m.map enc) = _
    rw [PyData.eqvAll, h a b, eqvAll_map h l m]
    by_cases e : a = b <;> by_cases f : l = m <;> simp [e, f]
theorem eqe_tup {α : Type} [DecidableEq α] {enc : α → PyData} (h : EqE enc) : EqE fun l : List α => PyData.tuple (l.map enc) := fun a b => by
  rw [PyData.eqv, eqvAll_map h]
theorem eqe_lst {α : Type} [DecidableEq α] {enc : α → PyData} (h : EqE enc) : EqE fun l : List α => PyData.list (l.map enc) := fun a b => by
  rw [PyData.eqv, eqvAll_map h]
theorem eqe_int : EqE PyData.int := fun a b => by
  rw [PyData.eqv]
  by_cases h : a = b <;> simp [h]
theorem eqe_nt : EqE dNt := fun a b => by
  unfold dNt
  rw [PyData.eqv]
  by_cases h : a = b
  · simp [h]
  · have : ¬ (a : Int) = b := by omega
    simp [h, this]
theorem eqe_F : EqE dF := fun a b => by
  unfold dF
  simp only [PyData.eqv, PyData.eqvAll, Bool.and_true]
  obtain ⟨a1, a2⟩ := a
  obtain ⟨b1, b2⟩ := b
  by_cases h1 : a1 = b1 <;> by_cases h2 : a2 = b2 <;> simp [h1, h2]
theorem eqe_R : EqE dR := eqe_tup eqe_F
theorem eqe_M : EqE dM := eqe_tup eqe_R
theorem eqe_Ms : EqE dMs := eqe_tup eqe_M
theorem eqe_O : EqE dO := eqe_tup eqe_nt
theorem eqe_S : EqE dS := fun a b => by
  unfold dS
  simp only [PyData.eqv, PyData.eqvAll, Bool.and_true]
  rw [eqe_Ms, eqe_Ms]
  obtain ⟨a1, a2⟩ := a
  obtain ⟨b1, b2⟩ := b
  by_cases h1 : a1 = b1 <;> by_cases h2 : a2 = b2 <;> simp [h1, h2]
/-! ### shapes -/
def Sh (n : Nat) (d : PyData) : Prop := d.canLay0 = true ∧ d.depth ≤ n
theorem Sh.ok {n : Nat} {d : PyData} (h : Sh n d) (hn : n ≤ 64) : SeqAt.shaped d = true := by
  unfold SeqAt.shaped
  rw [h.1, Bool.true_and]
  exact decide_eq_true (Nat.le_trans h.2 hn)
theorem sh_all {n : Nat} : ∀ {ds : List PyData}, (∀ d ∈ ds, Sh n d) → PyData.canLayAll0 ds = true ∧ PyData.depthAll ds ≤ n
  | [], _ => by simp [PyData.canLayAll0, PyData.depthAll]
  | d :: ds, h => by
    have h1 := h d (by simp)
    have h2 := sh_all (ds := ds) fun e he => h e (by simp [he])
    rw [PyData.canLayAll0, PyData.depthAll, h1.1, h2.1]
    exact ⟨rfl, Nat.max_le.mpr ⟨h1.2, h2.2⟩⟩
theorem sh_tup {n : Nat} {ds : List PyData} (h : ∀ d ∈ ds, Sh n d) : Sh (n + 1) (.tuple ds) := by
  obtain ⟨h1, h2⟩ := sh_all h
  refine ⟨by rw [PyData.canLay0]; exact h1, ?_⟩
  rw [PyData.depth]
  omega
theorem sh_lst {n : Nat} {ds : List PyData} (h : ∀ d ∈ ds, Sh n d) : Sh (n + 1) (.list ds) := by
  obtain ⟨h1, h2⟩ := sh_all h
  refine ⟨by rw [PyData.canLay0]; exact h1, ?_⟩
  rw [PyData.depth]
  omega
theorem Sh.mono {n m : Nat} {d : PyData} (h : Sh n d) (hm : n ≤ m) : Sh m d := ⟨h.1, Nat.le_trans h.2 hm⟩
theorem sh_int (i : Int) : Sh 0 (.int i) := ⟨by simp [PyData.canLay0], by simp [PyData.depth]⟩
theorem sh_bl (i : Bool) : Sh 0 (.bool i) := ⟨by simp [PyData.canLay0], by simp [PyData.depth]⟩
theorem sh_none : Sh 0 .none := ⟨by simp [PyData.canLay0], by simp [PyData.depth]⟩
theorem sh_map {α : Type} {n : Nat} {enc : α → PyData} (h : ∀ a, Sh n (enc a)) (l : List α) : Sh (n + 1) (.tuple (l.map enc)) := sh_tup fun d hd => by
  obtain ⟨a, _, rfl⟩ := List.mem_map.mp hd
  exact h a
theorem sh_mapL {α : Type} {n : Nat} {enc : α → PyData} (h : ∀ a, Sh n (enc a)) (l : List α) : Sh (n + 1) (.list (l.map enc)) := sh_lst fun d hd => by
  obtain ⟨a, _, rfl⟩ := List.mem_map.mp hd
  exact h a
theorem sh_nt (k : Nat) : Sh 0 (dNt k) := sh_int _
theorem sh_F (f : Fr) : Sh 1 (dF f) := sh_tup fun d hd => by
  simp only [List.mem_cons, List.not_mem_nil, or_false] at hd
  rcases hd with rfl | rfl <;> exact sh_int _
theorem sh_R (r : Rw) : Sh 2 (dR r) := sh_map sh_F r
theorem sh_M (r : Mx) : Sh 3 (dM r) := sh_map sh_R r
theorem sh_Ms (r : List Mx) : Sh 4 (dMs r) := sh_map sh_M r
theorem sh_O (r : List Nat) : Sh 1 (dO r) := sh_map sh_nt r
theorem sh_S (s : Sheet) : Sh 5 (dS s) := sh_tup fun d hd => by
  simp only [List.mem_cons, List.not_mem_nil, or_false] at hd
  rcases hd with rfl | rfl <;> exact sh_Ms _
/-! ### sorting -/
def leI (a b : Int) : Bool := decide (a ≤ b)
def leF (p q : Fr) : Bool := decide (p.1 < q.1 ∨ (p.1 = q.1 ∧ p.2 ≤ q.2))
theorem le_dF : PySem.W.dataLe false dF = leF := PySem.W.dataLe_ii (fun f : Fr => f.1) fun f => f.2
theorem le_int : PySem.W.dataLe false PyData.int = leI := PySem.W.dataLe_int fun i => i
def srtF (l : Rw) : Rw := l.mergeSort leF
def srtI (l : List Int) : List Int := l.mergeSort leI
theorem leF_trans (a b c : Fr) (h1 : leF a b = true) (h2 : leF b c = true) : leF a c = true := by
  unfold leF at *
  simp only [decide_eq_true_eq] at *
  omega
theorem leF_total (a b : Fr) : (leF a b || leF b a) = true := by
  unfold leF
  simp only [Bool.or_eq_true, decide_eq_true_eq]
  omega
theorem leF_anti (a b : Fr) (h1 : leF a b = true) (h2 : leF b a = true) : a = b := by
  unfold leF at *
  simp only [decide_eq_true_eq] at *
  obtain ⟨a1, a2⟩ := a
  obtain ⟨b1, b2⟩ := b
  simp only at h1 h2
  have e1 : a1 = b1 := by omega
  have e2 : a2 = b2 := by omega
  rw [e1, e2]
theorem srtF_perm {l m : Rw} (h : l.Perm m) : srtF l = srtF m :=
  List.Perm.eq_of_pairwise (le := fun a b => leF a b = true) (fun a b _ _ => leF_anti a b) (List.pairwise_mergeSort leF_trans leF_total l) (List.pairwise_mergeSort leF_trans leF_total m) (((List.mergeSort_perm l leF).trans h).trans (List.mergeSort_perm m leF).symm)
theorem leI_trans (a b c : Int) (h1 : leI a b = true) (h2 : leI b c = true) : leI a c = true := by
  unfold leI at *
  simp only [decide_eq_true_eq] at *
  omega
theorem leI_total (a b : Int) : (leI a b || leI b a) = true := by
  unfold leI
  simp only [Bool.or_eq_true, decide_eq_true_eq]
  omega
theorem leI_anti (a b : Int) (h1 : leI a b = true) (h2 : leI b a = true) : a = b := by
  unfold leI at *
  simp only [decide_eq_true_eq] at *
  omega
def rgI (n : Nat) : List Int := (List.range n).map fun (k : Nat) => (k : Int)
theorem rgI_sorted (n : Nat) : (rgI n).Pairwise (fun a b => leI a b = true) := by
  unfold rgI
  rw [List.pairwise_map]
  exact (List.pairwise_lt_range (n := n)).imp fun h => by
    unfold leI
    simp only [decide_eq_true_eq]
    omega
theorem map_cast_perm {o : List Nat} {n : Nat} : (o.map fun (k : Nat) => (k : Int)).Perm (rgI n) ↔ o.Perm (List.range n) := by
  constructor
  · intro h
    have z := h.map Int.toNat
    unfold rgI at z
    simpa [Function.comp_def] using z
  · exact fun h => h.map _
theorem srtI_range {o : List Nat} {n : Nat} : srtI (o.map fun (k : Nat) => (k : Int)) = rgI n ↔ o.Perm (List.range n) := by
  rw [← map_cast_perm]
  constructor
  · intro h
    rw [← h]
    exact (List.mergeSort_perm _ _).symm
  · intro h
    exact List.Perm.eq_of_pairwise (le := fun a b => leI a b = true) (fun a b _ _ => leI_anti a b) (List.pairwise_mergeSort leI_trans leI_total _) (rgI_sorted n) ((List.mergeSort_perm _ _).trans h)
theorem alike_F (a b : Fr) : PySem.W.alike (dF a) (dF b) = true := by simp [dF, PySem.W.alike, PySem.W.alikeAll]
theorem alikes_F (l : Rw) : PySem.W.AllAlike (l.map dF) := PySem.W.AllAlike.of alike_F
theorem sortable_F (l : Rw) : PySem.W.Sortable (l.map dF) := PySem.W.Sortable.tuples fun b => ⟨_, _, rfl⟩
theorem alikes_I (l : List Int) : PySem.W.AllAlike (l.map PyData.int) := PySem.W.AllAlike.of fun a b => by simp [PySem.W.alike]
theorem sortable_I (l : List Int) : PySem.W.Sortable (l.map PyData.int) := PySem.W.Sortable.others fun b => ⟨(fun h => nomatch h), (fun _ h => nomatch h)⟩
/-! ### sheets -/
def Sheet.n (s : Sheet) : Nat := (s.mats.headD []).length
structure Wf (s : Sheet) : Prop where
  ne : s.mats ≠ []
  nl : s.n ≤ 100
  ml : s.mats.length ≤ 100
  tl : s.tells.length ≤ 100
  sq : ∀ m ∈ s.mats, m.length = s.n ∧ ∀ r ∈ m, r.length = s.n
  tq : ∀ t ∈ s.tells, t ≠ [] ∧ t.length ≤ 100 ∧ ∀ r ∈ t, r.length = s.n
def fz : Fr := (0, 0)
/-- m at i, j -/
def at2 (m : Mx) (i j : Nat) : Fr := (m.getD i []).getD j fz
def renR (r : Rw) (o : List Nat) : Rw := o.map fun k => r.getD k fz
def renM (m : Mx) (o : List Nat) : Mx := o.map fun k => renR (m.getD k []) o
def renS (s : Sheet) (o : List Nat) : Sheet := ⟨s.mats.map fun m => renM m o, s.tells.map fun t => t.map fun r => renR r o⟩
end My
namespace My
open PySem PySem.Spec PyProof.Rows L2
section
variable {P : Program} {w : World} {K : PySem.W.Frag} {mg : Str → Option Value} {base : Heap}
def isI : PyData → Bool
  | .int _ => true
  | _ => false
def spIsNumber (K : PySem.W.Frag) : Sp := spT K (fun d : PyData => [d]) (fun d => (∃ i, d = .int i) ∨ ∃ l, d = .tuple l) (fun a d => d = .bool (isI a))
theorem ok_is_number (D : Df K mg "is_number" s_is_number ["thing"]) (B : Blt mg) : Cal P w K mg base 1 "is_number" ["thing"] (spIsNumber K) := by
  refine cal_of D fun f fd F => fn_t F sc_is_number (fun a _ => rfl) (by decide) fun cdv A outer s H E hr => ⟨_, (pss_one (ps_ret (pe_and (xe_isi K B (pa_cons (pv 0) (pa_cons (xe_ty (x := "int") (T := "int") (by decide +kernel) B.b_int) pa_nil))) (pe_one (pe_not (xe_isi K B (pa_cons (pv 0) (pa_cons (xe_ty (x := "bool") (T := "bool") (by decide +kernel) B.b_bool) pa_nil)))))))), fun a hp => ?_⟩
  refine r_ret (d := .bool (isI a)) ?_ rfl
  rcases hp with ⟨i, rfl⟩ | ⟨l, rfl⟩
  · exact ed_and (a := true) (b := true) (ed_isi (s := "int") (ed_var rfl) rfl (by decide +kernel)) fun _ => ed_not (a := false) (ed_isi (s := "int") (ed_var rfl) rfl (by decide +kernel))
  · exact ed_and (a := false) (b := true) (ed_isi (s := "tuple") (ed_var rfl) rfl (by decide +kernel)) fun h => nomatch h
/-! tuple_of -/
def TOk : Nat → PyData → Prop
  | n + 1, .int _ => True
  | n + 1, .tuple ds => ds.length ≤ 1000 ∧ ∀ d ∈ ds, TOk n d
  | _, _ => False
def spTO (K : PySem.W.Frag) (n : Nat) : Sp := spT K (fun d : PyData => [d]) (TOk n) (fun a d => d = a)
theorem ok_tuple_of (D : Df K mg "tuple_of" s_tuple_of ["thing"]) (B : Blt mg) : ∀ n : Nat, Cal P w K mg base n "tuple_of" ["thing"] (spTO K n)
  | 0 => cal_never D fun a h => by cases a <;> exact h
  | n + 1 => by
    have c_tuple_of := ok_tuple_of D B n
    refine cal_of D fun f fd F => fn_t F sc_tuple_of (fun a _ => rfl) (by decide) fun cdv A outer s H E hr => ⟨_, (pss_cons (ps_if (pt_val (xe_isiT K B (pa_cons (pv 0) (pa_cons (pe_tup (pa_cons (xe_ty (x := "list") (T := "list") (by decide +kernel) B.b_list) (pa_cons (xe_ty (x := "tuple") (T := "tuple") (by decide +kernel) B.b_tuple) pa_nil))) pa_nil)))) (pss_one (ps_ret (xe_tuple K B (pa_cons (pe_lc (own := [("part", 1)]) rfl sc_tuple_of.nd (xi_seq K (pv 0)) (blkOk_by (by rfl)) (fun _ _ _ _ _ => (pg_name (i := 1) sc_tuple_of.nd rfl (by first | exact Or.inl rfl | exact Or.inr rfl))) (fun _ _ _ _ _ => pts_nil) (fun _ _ _ _ _ => (pe_cal c_tuple_of hr (by omega) rfl (pa_cons (pv 1) pa_nil)))) pa_nil)))) pss_nil)
        (pss_one (ps_ret (pv 0)))), fun a hp => ?_⟩
    cases a with
    | int i => exact r_then (r_if (b := false) (et_val (ed_isiT (b := false) (b2 := false) (s := "int") (ed_var rfl) rfl (by decide +kernel) (by decide +kernel))) (fun h => nomatch h) fun _ => r_next rfl) (r_ret (ed_var rfl) rfl)
    | tuple ds =>
      refine r_seqX (r_if (b := true) (et_val (ed_isiT (b := false) (b2 := true) (s := "tuple") (ed_var rfl) rfl (by decide +kernel) (by decide +kernel))) (fun _ => ?_) fun h => nomatch h)
      exact r_ret (d := .tuple ds) (ed_tupleL (el_lcE (l := ds) (enc := id) (r := id) (ei_tup (ed_var rfl)) (List.map_id _).symm hp.1 (fun _ h => h) (fun a ha => ⟨_, eg_name 1, ed_call a (ea_cons (ed_var rfl) ea_nil) (hp.2 a ha)⟩) (List.map_id _).symm)) rfl
    | none => exact hp.elim
    | bool b => exact hp.elim
    | str b => exact hp.elim
    | list b => exact hp.elim
    | dict b => exact hp.elim
end
end My
namespace My
open PySem PySem.Spec PyProof.Rows L2
theorem tok_map {α : Type} {n : Nat} {enc : α → PyData} {l : List α} (hl : l.length ≤ 1000) (h : ∀ a ∈ l, TOk n (enc a)) : TOk (n + 1) (.tuple (l.map enc)) := ⟨by rw [List.length_map]; exact hl, fun d hd => by
  obtain ⟨a, ha, rfl⟩ := List.mem_map.mp hd
  exact h a ha⟩
theorem tok_F (f : Fr) : TOk 2 (dF f) := ⟨by show 2 ≤ 1000; decide, fun d hd => by
  simp only [List.mem_cons, List.not_mem_nil, or_false] at hd
  rcases hd with rfl | rfl <;> exact True.intro⟩
theorem tok_R {r : Rw} (h : r.length ≤ 1000) : TOk 3 (dR r) := tok_map h fun f _ => tok_F f
theorem tok_M {m : Mx} (h : m.length ≤ 1000) (h2 : ∀ r ∈ m, r.length ≤ 1000) : TOk 4 (dM m) := tok_map h fun r hr => tok_R (h2 r hr)
theorem tok_S {s : Sheet} (h : Wf s) : TOk 6 (dS s) := by
  have hn := h.nl
  have hm := h.ml
  have ht := h.tl
  refine ⟨by show 2 ≤ 1000; decide, fun d hd => ?_⟩
  simp only [List.mem_cons, List.not_mem_nil, or_false] at hd
  rcases hd with rfl | rfl
  · exact tok_map (by omega) fun m hm => tok_M (by have := (h.sq m hm).1; omega) fun r hr => by have := (h.sq m hm).2 r hr; omega
  · exact tok_map (by omega) fun m hm => tok_M (by have := (h.tq m hm).2.1; omega) fun r hr => by have := (h.tq m hm).2.2 r hr; omega
theorem tok_O {o : List Nat} (h : o.length ≤ 1000) : TOk 2 (dO o) := tok_map h fun _ _ => True.intro
section
variable {P : Program} {w : World} {K : PySem.W.Frag} {mg : Str → Option Value} {base : Heap}
def spHot (K : PySem.W.Frag) : Sp := spT K (fun s : Sheet => [dS s]) Wf (fun _ d => d = .bool false)
theorem ok_has_one_tell (D : Df K mg "has_one_tell" s_has_one_tell ["sheet"]) (B : Blt mg) (c_is_number : Cal P w K mg base 1 "is_number" ["thing"] (spIsNumber K)) : Cal P w K mg base 2 "has_one_tell" ["sheet"] (spHot K) := by
  refine cal_of D fun f fd F => fn_t F sc_has_one_tell (fun a _ => rfl) (by decide) fun cdv A outer s H E hr => ⟨_, (pss_cons (ps_if (xt_eq K hr (xe_len K B (pa_cons (xe_ix K (pv 0) pe_int) pa_nil)) pe_int) (pss_one (ps_ret pe_bl)) pss_nil)
        (pss_cons (ps_set (i := 1) sc_has_one_tell.nd rfl (by first | exact Or.inl rfl | exact Or.inr rfl) (xe_ix K (xe_ix K (pv 0) pe_int) pe_int))
        (pss_cons (ps_if (xt_eq K hr (xe_len K B (pa_cons (pv 1) pa_nil)) pe_int) (pss_one (ps_ret pe_bl)) pss_nil)
        (pss_one (ps_ret (pe_and (pe_cmpR op_gt (xe_len K B (pa_cons (xe_ix K (pv 1) pe_int) pa_nil)) pe_int (nomark _)) (pe_one (pe_cal c_is_number hr (by omega) rfl (pa_cons (xe_ix K (xe_ix K (pv 1) pe_int) pe_int) pa_nil))))))))), fun a hp => ?_⟩
  obtain ⟨ms, ts⟩ := a
  have L : EvD K _ _ _ := ed_len (ed_ix (j := 1) (ed_var (K := K) (ρ := [SD.dat (dS ⟨ms, ts⟩), .no]) (i := 0) rfl) ed_int rfl) (.inl rfl)
  cases ts with
  | nil => exact r_seqX (r_if (b := true) (et_cmp (ed_eqI L ed_int)) (fun _ => r_ret ed_bl rfl) fun h => nomatch h)
  | cons t ts =>
    refine r_then (r_if (b := false) (et_cmp (ed_is (ed_eqI L ed_int) (by simp; omega))) (fun h => nomatch h) fun _ => r_next rfl) ?_
    refine r_then (r_set (ed_ix (j := 0) (ed_ix (j := 1) (ed_var rfl) ed_int rfl) ed_int rfl) rfl) ?_
    have ht := hp.tq t (by simp)
    cases t with
    | nil => exact absurd rfl ht.1
    | cons r rs =>
      refine r_then (r_if (b := false) (et_cmp (ed_is (ed_eqI (ed_len (ed_var rfl) (.inl rfl)) ed_int) (by simp; omega))) (fun h => nomatch h) fun _ => r_next rfl) ?_
      refine r_ret ?_ rfl
      cases r with
      | nil => exact ed_is (ed_and (b := true) (ed_gt (ed_len (ed_ix (j := 0) (ed_var rfl) ed_int rfl) (.inl rfl)) ed_int) fun h => absurd h (by simp)) (by simp)
      | cons f fs => exact ed_is (ed_and (b := false) (ed_gt (ed_len (ed_ix (j := 0) (ed_var rfl) ed_int rfl) (.inl rfl)) ed_int) fun _ => ed_of (ep_call (dF f) (ea_cons (ed_ix (j := 0) (ed_ix (j := 0) (ed_var rfl) ed_int rfl) ed_int rfl) ea_nil) (.inr ⟨_, rfl⟩)) fun _ h => h) (by simp)
end
end My
namespace My
open PySem PySem.Spec PyProof.Rows L2
theorem get_map {α : Type} {enc : α → PyData} {l : List α} {k : Nat} {z : α} (h : k < l.length) : (l.map enc)[k]? = some (enc (l.getD k z)) := by
  rw [List.getElem?_map, List.getElem?_eq_getElem h, List.getD_eq_getElem?_getD, List.getElem?_eq_getElem h]
  rfl
theorem getD_mem {α : Type} {l : List α} {k : Nat} {z : α} (h : k < l.length) : l.getD k z ∈ l := by
  rw [List.getD_eq_getElem?_getD, List.getElem?_eq_getElem h]
  exact List.getElem_mem h
section
variable {P : Program} {w : World} {K : PySem.W.Frag} {mg : Str → Option Value} {base : Heap}
def spTells (K : PySem.W.Frag) : Sp := spT K (fun s : Sheet => [dS s]) Wf (fun s d => d = dMs s.tells)
theorem ok_tells_of (D : Df K mg "tells_of" s_tells_of ["sheet"]) (B : Blt mg) (c_has_one_tell : Cal P w K mg base 2 "has_one_tell" ["sheet"] (spHot K)) : Cal P w K mg base 3 "tells_of" ["sheet"] (spTells K) := by
  refine cal_of D fun f fd F => fn_t F sc_tells_of (fun a _ => rfl) (by decide) fun cdv A outer s H E hr => ⟨_, (pss_one (ps_ret (pe_ifExp (pt_val (pe_cal c_has_one_tell hr (by omega) rfl (pa_cons (pv 0) pa_nil))) (pe_tup (pa_cons (xe_ix K (pv 0) pe_int) pa_nil)) (xe_ix K (pv 0) pe_int)))), fun a hp => ?_⟩
  exact r_ret (ed_if (b := false) (et_val (ed_of (ep_call a (ea_cons (ed_var rfl) ea_nil) hp) fun _ h => h)) (fun h => nomatch h) fun _ => ed_ix (j := 1) (ed_var rfl) ed_int rfl) rfl
def spLike (K : PySem.W.Frag) : Sp := spT K (fun a : Sheet × PyData × PyData => [dS a.1, a.2.1, a.2.2]) (fun a => Wf a.1) (fun a d => d = .tuple [a.2.1, a.2.2])
theorem ok__like (D : Df K mg "_like" s__like ["sheet", "matrices", "tells"]) (B : Blt mg) (c_has_one_tell : Cal P w K mg base 2 "has_one_tell" ["sheet"] (spHot K)) : Cal P w K mg base 3 "_like" ["sheet", "matrices", "tells"] (spLike K) := by
  refine cal_of D fun f fd F => fn_t F sc__like (fun a _ => rfl) (by decide) fun cdv A outer s H E hr => ⟨_, (pss_one (ps_ret (pe_ifExp (pt_val (pe_cal c_has_one_tell hr (by omega) rfl (pa_cons (pv 0) pa_nil))) (pe_tup (pa_cons (pv 1) (pa_cons (xe_ix K (pv 2) pe_int) pa_nil))) (pe_tup (pa_cons (pv 1) (pa_cons (pv 2) pa_nil)))))), fun a hp => ?_⟩
  exact r_ret (ed_if (b := false) (et_val (ed_of (ep_call a.1 (ea_cons (ed_var rfl) ea_nil) hp) fun _ h => h)) (fun h => nomatch h) fun _ => ed_tup (ea_cons (ed_var rfl) (ea_cons (ed_var rfl) ea_nil)) (by show 2 ≤ 1000; decide)) rfl
def spRow (K : PySem.W.Frag) : Sp := spT K (fun a : Rw × List Nat => [dR a.1, dO a.2]) (fun a => a.2.length ≤ 1000 ∧ ∀ k ∈ a.2, k < a.1.length) (fun a d => d = dR (renR a.1 a.2))
theorem ok__row_renamed (D : Df K mg "_row_renamed" s__row_renamed ["row", "order"]) (B : Blt mg) : Cal P w K mg base 1 "_row_renamed" ["row", "order"] (spRow K) := by
  refine cal_of D fun f fd F => fn_t F sc__row_renamed (fun a _ => rfl) (by decide) fun cdv A outer s H E hr => ⟨_, (pss_one (ps_ret (xe_tuple K B (pa_cons (pe_lc (own := [("k", 2)]) rfl sc__row_renamed.nd (xi_seq K (pv 1)) (blkOk_by (by rfl)) (fun _ _ _ _ _ => (pg_name (i := 2) sc__row_renamed.nd rfl (by first | exact Or.inl rfl | exact Or.inr rfl))) (fun _ _ _ _ _ => pts_nil) (fun _ _ _ _ _ => (xe_ix K (pv 0) (pv 2)))) pa_nil)))), fun a hp => ?_⟩
  obtain ⟨r, o⟩ := a
  obtain ⟨h1, h2⟩ := hp
  refine r_ret (ed_tupleL (el_lcE (l := o) (enc := dNt) (r := fun k => dF (r.getD k fz)) (ei_tup (ed_var rfl)) rfl h1 (fun _ h => h) (fun k hk => ⟨_, eg_name 2, ed_ix (j := k) (ed_var rfl) (ed_var rfl) (get_map (h2 k hk))⟩) rfl)) ?_
  show PyData.tuple _ = dR (o.map fun k => r.getD k fz)
  unfold dR
  rw [List.map_map]
  rfl
def spRen (K : PySem.W.Frag) : Sp := spT K (fun a : Sheet × List Nat => [dS a.1, dO a.2]) (fun a => Wf a.1 ∧ a.2.length ≤ 100 ∧ ∀ k ∈ a.2, k < a.1.n) (fun a d => d = dS (renS a.1 a.2))
theorem ok__renamed (D : Df K mg "_renamed" s__renamed ["sheet", "order"]) (B : Blt mg) (c__row_renamed : Cal P w K mg base 1 "_row_renamed" ["row", "order"] (spRow K)) (c_tells_of : Cal P w K mg base 3 "tells_of" ["sheet"] (spTells K)) (c__like : Cal P w K mg base 3 "_like" ["sheet", "matrices", "tells"] (spLike K)) :
    Cal P w K mg base 4 "_renamed" ["sheet", "order"] (spRen K) := by
  refine cal_of D fun f fd F => fn_t F sc__renamed (fun a _ => rfl) (by decide) fun cdv A outer s H E hr => ⟨_, (pss_cons (ps_set (i := 2) sc__renamed.nd rfl (by first | exact Or.inl rfl | exact Or.inr rfl) (xe_tuple K B (pa_cons (pe_lc (own := [("matrix", 4)]) rfl sc__renamed.nd (xi_seq K (xe_ix K (pv 0) pe_int)) (blkOk_by (by rfl)) (fun _ _ _ _ _ => (pg_name (i := 4) sc__renamed.nd rfl (by first | exact Or.inl rfl | exact Or.inr rfl))) (fun _ _ _ _ _ => pts_nil) (fun _ _ _ _ _ => (xe_tuple K B (pa_cons (pe_lc (own := [("k", 6)]) rfl sc__renamed.nd (xi_seq K (pv 1)) (blkOk_by (by rfl)) (fun _ _ _ _ _ => (pg_name (i := 6) sc__renamed.nd rfl (by first | exact Or.inl rfl | exact Or.inr rfl))) (fun _ _ _ _ _ => pts_nil) (fun _ _ _ _ _ => (pe_cal c__row_renamed hr (by omega) rfl (pa_cons (xe_ix K (pv 4) (pv 6)) (pa_cons (pv 1) pa_nil))))) pa_nil)))) pa_nil)))
        (pss_cons (ps_set (i := 3) sc__renamed.nd rfl (by first | exact Or.inl rfl | exact Or.inr rfl) (xe_tuple K B (pa_cons (pe_lc (own := [("tell", 5)]) rfl sc__renamed.nd (xi_seq K (pe_cal c_tells_of hr (by omega) rfl (pa_cons (pv 0) pa_nil))) (blkOk_by (by rfl)) (fun _ _ _ _ _ => (pg_name (i := 5) sc__renamed.nd rfl (by first | exact Or.inl rfl | exact Or.inr rfl))) (fun _ _ _ _ _ => pts_nil) (fun _ _ _ _ _ => (xe_tuple K B (pa_cons (pe_lc (own := [("row", 7)]) rfl sc__renamed.nd (xi_seq K (pv 5)) (blkOk_by (by rfl)) (fun _ _ _ _ _ => (pg_name (i := 7) sc__renamed.nd rfl (by first | exact Or.inl rfl | exact Or.inr rfl))) (fun _ _ _ _ _ => pts_nil) (fun _ _ _ _ _ => (pe_cal c__row_renamed hr (by omega) rfl (pa_cons (pv 7) (pa_cons (pv 1) pa_nil))))) pa_nil)))) pa_nil)))
        (pss_one (ps_ret (pe_cal c__like hr (by omega) rfl (pa_cons (pv 0) (pa_cons (pv 2) (pa_cons (pv 3) pa_nil)))))))), fun a hp => ?_⟩
  obtain ⟨s, o⟩ := a
  obtain ⟨hw, h1, h2⟩ := hp
  have hn := hw.nl
  have hml := hw.ml
  have htl := hw.tl
  simp only at h1 h2 hw hn hml htl
  refine r_then (r_set (d := dMs (renS s o).mats) (ed_tupleL (el_lcE (l := s.mats) (enc := dM) (r := fun m => dM (renM m o)) (ei_tup (ed_ix (j := 0) (ed_var rfl) ed_int rfl)) rfl (by omega) (fun _ h => h) (fun m hm => ⟨_, eg_name 4,
    ed_tupleL (el_lcE (l := o) (enc := dNt) (r := fun k => dR (renR (m.getD k []) o)) (ei_tup (ed_var rfl)) rfl (by omega) (fun _ h => h) (fun k hk => ⟨_, eg_name 6, ed_call (m.getD k [], o) (ea_cons (ed_ix (j := k) (ed_var rfl) (ed_var rfl) (get_map (by rw [(hw.sq m hm).1]; exact h2 k hk))) (ea_cons (ed_var rfl) ea_nil))
      ⟨by show o.length ≤ 1000; omega, fun j hj => by rw [(hw.sq m hm).2 _ (getD_mem (by rw [(hw.sq m hm).1]; exact h2 k hk))]; exact h2 j hj⟩⟩) (by show _ = List.map _ _; unfold renM; rw [List.map_map]; rfl))⟩) (by show _ = List.map _ _; unfold renS; rw [List.map_map]; rfl))) rfl) ?_
  refine r_then (r_set (d := dMs (renS s o).tells) (ed_tupleL (el_lcE (l := s.tells) (enc := dM) (r := fun t => dM (t.map fun r => renR r o)) (ei_tup (ed_call s (ea_cons (ed_var rfl) ea_nil) hw)) rfl (by omega) (fun _ h => h) (fun t ht => ⟨_, eg_name 5,
    ed_tupleL (el_lcE (l := t) (enc := dR) (r := fun r => dR (renR r o)) (ei_tup (ed_var rfl)) rfl (by have := (hw.tq t ht).2.1; omega) (fun _ h => h) (fun r hr => ⟨_, eg_name 7, ed_call (r, o) (ea_cons (ed_var rfl) (ea_cons (ed_var rfl) ea_nil))
      ⟨by show o.length ≤ 1000; omega, fun j hj => by rw [(hw.tq t ht).2.2 r hr]; exact h2 j hj⟩⟩) (by show _ = List.map _ _; rw [List.map_map]; rfl))⟩) (by show _ = List.map _ _; unfold renS; rw [List.map_map]; rfl))) rfl) ?_
  exact r_ret (ed_of (ep_call (s, dMs (renS s o).mats, dMs (renS s o).tells) (ea_cons (ed_var rfl) (ea_cons (ed_var rfl) (ea_cons (ed_var rfl) ea_nil))) hw) fun _ h => h) rfl
end
end My
namespace My
open PySem PySem.Spec PyProof.Rows L2
theorem tok_mono : ∀ (n : Nat) (d : PyData), TOk n d → TOk (n + 1) d
  | 0, d, h => by cases d <;> exact h.elim
  | n + 1, d, h => by
    cases d with
    | int i => exact True.intro
    | tuple ds => exact ⟨h.1, fun d hd => tok_mono n d (h.2 d hd)⟩
    | none => exact h.elim
    | bool b => exact h.elim
    | str b => exact h.elim
    | list b => exact h.elim
    | dict b => exact h.elim
theorem tok_O6 {o : List Nat} (h : o.length ≤ 1000) : TOk 6 (dO o) := tok_mono 5 _ (tok_mono 4 _ (tok_mono 3 _ (tok_mono 2 _ (tok_O h))))
def IsP (n : Nat) (o : List Nat) : Prop := o.Perm (List.range n)
theorem IsP.lt {n : Nat} {o : List Nat} (h : IsP n o) : ∀ k ∈ o, k < n := fun k hk => List.mem_range.mp (h.mem_iff.mp hk)
theorem IsP.len {n : Nat} {o : List Nat} (h : IsP n o) : o.length = n := by rw [h.length_eq, List.length_range]
theorem Wf.split {s : Sheet} (h : Wf s) : ∃ m ms, s.mats = m :: ms ∧ m.length = s.n := by
  cases e : s.mats with
  | nil => exact absurd e h.ne
  | cons m ms => exact ⟨m, ms, rfl, by unfold Sheet.n; rw [e]; rfl⟩
theorem dO_int (o : List Nat) : dO o = .tuple ((o.map fun (k : Nat) => (k : Int)).map .int) := by
  unfold dO
  rw [List.map_map]
  rfl
theorem dRg_int (n : Nat) : dRg n = (rgI n).map .int := by
  unfold dRg rgI
  rw [List.map_map]
  rfl
section
variable {K : PySem.W.Frag} {ρ : Ro} {ta : TE} {c : PyData}
theorem el_sortF {l : Rw} (ha : EvD K ta ρ c) (hc : c = .tuple (l.map dF) ∨ c = .list (l.map dF)) : EvL K (tCB (Gap.rSortS K dF) (tCons ta tNil)) ρ ((srtF l).map dF) := by
  have z := el_sorted dF ha hc (alikes_F l) (sortable_F l) fun b _ => Nat.le_trans (sh_F b).2 (by decide)
  rw [le_dF] at z
  exact z
theorem el_sortI {l : List Int} (ha : EvD K ta ρ c) (hc : c = .tuple (l.map .int) ∨ c = .list (l.map .int)) : EvL K (tCB (Gap.rSortS K PyData.int) (tCons ta tNil)) ρ ((srtI l).map .int) := by
  have z := el_sorted PyData.int ha hc (alikes_I l) (sortable_I l) fun b _ => Nat.le_trans (sh_int b).2 (by decide)
  rw [le_int] at z
  exact z
end
theorem sh_ints (l : List Int) : SeqAt.shaped (.list (l.map .int)) = true := (sh_mapL (enc := PyData.int) sh_int l).ok (by decide)
section
variable {P : Program} {w : World} {K : PySem.W.Frag} {mg : Str → Option Value} {base : Heap}
def spRenamed (K : PySem.W.Frag) : Sp := spT K (fun a : Sheet × List Nat => [dS a.1, dO a.2]) (fun a => Wf a.1 ∧ IsP a.1.n a.2) (fun a d => d = dS (renS a.1 a.2))
theorem ok_renamed (D : Df K mg "renamed" s_renamed ["sheet", "order"]) (B : Blt mg) (c_tuple_of : Cal P w K mg base 6 "tuple_of" ["thing"] (spTO K 6)) (c__renamed : Cal P w K mg base 4 "_renamed" ["sheet", "order"] (spRen K)) :
    Cal P w K mg base 7 "renamed" ["sheet", "order"] (spRenamed K) := by
  refine cal_of D fun f fd F => fn_t F sc_renamed (fun a _ => rfl) (by decide) fun cdv A outer s H E hr => ⟨_, (pss_cons (ps_par (i := 0) (j := 1) (by rfl) sc_renamed.nd rfl rfl (by decide) rfl rfl (pa_cons (pe_cal c_tuple_of hr (by omega) rfl (pa_cons (pv 0) pa_nil)) (pa_cons (pe_cal c_tuple_of hr (by omega) rfl (pa_cons (pv 1) pa_nil)) pa_nil)) (by rfl))
        (pss_cons (ps_if (xt_ne K hr (xe_sorted K PyData.int hr B (pa_cons (pv 1) pa_nil)) (xe_listRg B (xe_len K B (pa_cons (xe_ix K (xe_ix K (pv 0) pe_int) pe_int) pa_nil)))) (pss_one ps_never) pss_nil)
        (pss_one (ps_ret (pe_cal c__renamed hr (by omega) rfl (pa_cons (pv 0) (pa_cons (pv 1) pa_nil))))))), fun a hp => ?_⟩
  obtain ⟨s, o⟩ := a
  obtain ⟨hw, ho⟩ := hp
  have hn := hw.nl
  have hl := ho.len
  simp only at hw ho hn hl
  obtain ⟨m, ms, e1, e2⟩ := hw.split
  refine r_then (r_par (c := dS s) (d := dO o) (ea_cons (ed_of (ep_call (dS s) (ea_cons (ed_var rfl) ea_nil) (tok_S hw)) fun _ h => h) (ea_cons (ed_of (ep_call (dO o) (ea_cons (ed_var rfl) ea_nil) (tok_O6 (by omega))) fun _ h => h) ea_nil)) rfl) ?_
  refine r_then (r_if (b := false) (et_cmp (ed_ne (ed_l (el_sortI (l := o.map fun (k : Nat) => (k : Int)) (ed_var rfl) (.inl (dO_int o)))) (ed_l (el_listRg (n := s.n) (ed_is (ed_len (ds := m.map dR) (ed_ix (j := 0) (ed_ix (j := 0) (ed_var rfl) ed_int rfl) ed_int (by rw [e1]; rfl)) (.inl rfl)) (by rw [List.length_map, e2])) (by omega))) (sh_ints _) ?_ ?_)) (fun h => nomatch h) fun _ => r_next rfl) ?_
  · show SeqAt.shaped (.list (dRg s.n)) = true
    rw [dRg_int]
    exact sh_ints _
  · show (!PyData.eqv _ (.list (dRg s.n))) = false
    rw [dRg_int, eqe_lst eqe_int, decide_eq_true (srtI_range.mpr ho)]
    rfl
  · exact r_ret (ed_of (ep_call (s, o) (ea_cons (ed_var rfl) (ea_cons (ed_var rfl) ea_nil)) ⟨hw, by show o.length ≤ 100; omega, ho.lt⟩) fun _ h => h) rfl
def spStages (K : PySem.W.Frag) : Sp := spT K (fun s : Sheet => [dS s]) Wf (fun s d => d = .int (s.n : Int))
theorem ok_stages_of (D : Df K mg "stages_of" s_stages_of ["sheet"]) (B : Blt mg) : Cal P w K mg base 1 "stages_of" ["sheet"] (spStages K) := by
  refine cal_of D fun f fd F => fn_t F sc_stages_of (fun a _ => rfl) (by decide) fun cdv A outer s H E hr => ⟨_, (pss_one (ps_ret (xe_len K B (pa_cons (xe_ix K (xe_ix K (pv 0) pe_int) pe_int) pa_nil)))), fun s hw => ?_⟩
  obtain ⟨m, ms, e1, e2⟩ := hw.split
  refine r_ret (ed_len (ds := m.map dR) (ed_ix (j := 0) (ed_ix (j := 0) (ed_var rfl) ed_int rfl) ed_int (by rw [e1]; rfl)) (.inl rfl)) ?_
  rw [List.length_map, e2]
def spNamed (K : PySem.W.Frag) : Sp := spT K (fun a : Sheet × List Nat => [dS a.1, dO a.2]) (fun a => Wf a.1 ∧ a.2.length ≤ 100 ∧ ∀ k ∈ a.2, k < a.1.n) (fun a d => d = dS (renS a.1 a.2))
theorem ok__law_told_named (D : Df K mg "_law_told_named" s__law_told_named ["_law_sheet_so", "_law_order_so"]) (B : Blt mg) : Cal P w K mg base 1 "_law_told_named" ["_law_sheet_so", "_law_order_so"] (spNamed K) := by
  refine cal_of D fun f fd F => fn_t F sc__law_told_named (fun a _ => rfl) (by decide) fun cdv A outer s H E hr => ⟨_, (pss_cons (ps_set (i := 2) sc__law_told_named.nd rfl (by first | exact Or.inl rfl | exact Or.inr rfl) (xe_tuple K B (pa_cons (pe_lc (own := [("_law_own", 3)]) rfl sc__law_told_named.nd (xi_seq K (xe_ix K (pv 0) pe_int)) (blkOk_by (by rfl)) (fun _ _ _ _ _ => (pg_name (i := 3) sc__law_told_named.nd rfl (by first | exact Or.inl rfl | exact Or.inr rfl))) (fun _ _ _ _ _ => pts_nil) (fun _ _ _ _ _ => (xe_tuple K B (pa_cons (pe_lc (own := [("_law_k", 4)]) rfl sc__law_told_named.nd (xi_seq K (pv 1)) (blkOk_by (by rfl)) (fun _ _ _ _ _ => (pg_name (i := 4) sc__law_told_named.nd rfl (by first | exact Or.inl rfl | exact Or.inr rfl))) (fun _ _ _ _ _ => pts_nil) (fun _ _ _ _ _ => (xe_tuple K B (pa_cons (pe_lc (own := [("_law_j", 6)]) rfl sc__law_told_named.nd (xi_seq K (pv 1)) (blkOk_by (by rfl)) (fun _ _ _ _ _ => (pg_name (i := 6) sc__law_told_named.nd rfl (by first | exact Or.inl rfl | exact Or.inr rfl))) (fun _ _ _ _ _ => pts_nil) (fun _ _ _ _ _ => (xe_ix K (xe_ix K (pv 3) (pv 4)) (pv 6)))) pa_nil)))) pa_nil)))) pa_nil)))
        (pss_one (ps_ret (pe_tup (pa_cons (pv 2) (pa_cons (xe_tuple K B (pa_cons (pe_lc (own := [("_law_own", 3)]) rfl sc__law_told_named.nd (xi_seq K (xe_ix K (pv 0) pe_int)) (blkOk_by (by rfl)) (fun _ _ _ _ _ => (pg_name (i := 3) sc__law_told_named.nd rfl (by first | exact Or.inl rfl | exact Or.inr rfl))) (fun _ _ _ _ _ => pts_nil) (fun _ _ _ _ _ => (xe_tuple K B (pa_cons (pe_lc (own := [("_law_row_so", 5)]) rfl sc__law_told_named.nd (xi_seq K (pv 3)) (blkOk_by (by rfl)) (fun _ _ _ _ _ => (pg_name (i := 5) sc__law_told_named.nd rfl (by first | exact Or.inl rfl | exact Or.inr rfl))) (fun _ _ _ _ _ => pts_nil) (fun _ _ _ _ _ => (xe_tuple K B (pa_cons (pe_lc (own := [("_law_k", 4)]) rfl sc__law_told_named.nd (xi_seq K (pv 1)) (blkOk_by (by rfl)) (fun _ _ _ _ _ => (pg_name (i := 4) sc__law_told_named.nd rfl (by first | exact Or.inl rfl | exact Or.inr rfl))) (fun _ _ _ _ _ => pts_nil) (fun _ _ _ _ _ => (xe_ix K (pv 5) (pv 4)))) pa_nil)))) pa_nil)))) pa_nil)) pa_nil)))))), fun a hp => ?_⟩
  obtain ⟨s, o⟩ := a
  obtain ⟨hw, h1, h2⟩ := hp
  have hn := hw.nl
  have hml := hw.ml
  have htl := hw.tl
  simp only at h1 h2 hw hn hml htl
  refine r_then (r_set (d := dMs (renS s o).mats) (ed_tupleL (el_lcE (l := s.mats) (enc := dM) (r := fun m => dM (renM m o)) (ei_tup (ed_ix (j := 0) (ed_var rfl) ed_int rfl)) rfl (by omega) (fun _ h => h) (fun m hm => ⟨_, eg_name 3,
    ed_tupleL (el_lcE (l := o) (enc := dNt) (r := fun k => dR (renR (m.getD k []) o)) (ei_tup (ed_var rfl)) rfl (by omega) (fun _ h => h) (fun k hk => ⟨_, eg_name 4,
      ed_tupleL (el_lcE (l := o) (enc := dNt) (r := fun j => dF ((m.getD k []).getD j fz)) (ei_tup (ed_var rfl)) rfl (by omega) (fun _ h => h) (fun j hj => ⟨_, eg_name 6,
        ed_ix (j := j) (ed_ix (j := k) (ed_var rfl) (ed_var rfl) (get_map (by rw [(hw.sq m hm).1]; exact h2 k hk))) (ed_var rfl) (get_map (by rw [(hw.sq m hm).2 _ (getD_mem (by rw [(hw.sq m hm).1]; exact h2 k hk))]; exact h2 j hj))⟩)
        (by show _ = List.map _ _; unfold renR; rw [List.map_map]; rfl))⟩) (by show _ = List.map _ _; unfold renM; rw [List.map_map]; rfl))⟩) (by show _ = List.map _ _; unfold renS; rw [List.map_map]; rfl))) rfl) ?_
  refine r_ret (d := dS (renS s o)) (ed_tup (ds := [dMs (renS s o).mats, dMs (renS s o).tells]) (ea_cons (ed_var rfl) (ea_cons (ed_tupleL (el_lcE (l := s.tells) (enc := dM) (r := fun t => dM (t.map fun r => renR r o)) (ei_tup (ed_ix (j := 1) (ed_var rfl) ed_int rfl)) rfl (by omega) (fun _ h => h) (fun t ht => ⟨_, eg_name 3,
    ed_tupleL (el_lcE (l := t) (enc := dR) (r := fun r => dR (renR r o)) (ei_tup (ed_var rfl)) rfl (by have := (hw.tq t ht).2.1; omega) (fun _ h => h) (fun r hr => ⟨_, eg_name 5,
      ed_tupleL (el_lcE (l := o) (enc := dNt) (r := fun j => dF (r.getD j fz)) (ei_tup (ed_var rfl)) rfl (by omega) (fun _ h => h) (fun j hj => ⟨_, eg_name 4, ed_ix (j := j) (ed_var rfl) (ed_var rfl) (get_map (by rw [(hw.tq t ht).2.2 r hr]; exact h2 j hj))⟩)
        (by show _ = List.map _ _; unfold renR; rw [List.map_map]; rfl))⟩) (by show _ = List.map _ _; rw [List.map_map]; rfl))⟩) (by show _ = List.map _ _; unfold renS; rw [List.map_map]; rfl))) ea_nil)) (by show 2 ≤ 1000; decide)) rfl
end
end My
namespace My
open PySem PySem.Spec PyProof.Rows L2
def wts (s : Sheet) (k : Nat) : Rw := s.tells.flatMap fun t => t.map fun r => r.getD k fz
def dMk1 (k : Nat) (m : Mx) : PyData := .tuple [dF (at2 m k k), dR (srtF (m.getD k [])), dR (srtF (m.map fun r => r.getD k fz))]
def dMk (s : Sheet) (k : Nat) : PyData := .tuple [dR (wts s k), .tuple (s.mats.map (dMk1 k))]
theorem sum_le : ∀ {l : List Mx}, (∀ t ∈ l, t.length ≤ 10) → (l.map List.length).sum ≤ 10 * l.length
  | [], _ => by simp
  | a :: l, h => by
    have h1 := h a (by simp)
    have h2 := sum_le (l := l) fun t ht => h t (by simp [ht])
    simp only [List.map_cons, List.sum_cons, List.length_cons]
    omega
theorem take_snoc {α : Type} {l : List α} {i : Nat} (h : i < l.length) : l.take (i + 1) = l.take i ++ [l[i]] := by rw [List.take_add_one, List.getElem?_eq_getElem h]; rfl
section
variable {P : Program} {w : World} {K : PySem.W.Frag} {mg : Str → Option Value} {base : Heap}
structure Small (s : Sheet) : Prop where
  wf : Wf s
  t1 : s.tells.length ≤ 10
  t2 : ∀ t ∈ s.tells, t.length ≤ 10
def spMarks (K : PySem.W.Frag) : Sp := spT K (fun a : Sheet × Nat => [dS a.1, dNt a.2]) (fun a => Small a.1 ∧ a.2 < a.1.n) (fun a d => d = dMk a.1 a.2)
theorem ok_marks_of (D : Df K mg "marks_of" s_marks_of ["sheet", "stage"]) (B : Blt mg) : Cal P w K mg base 1 "marks_of" ["sheet", "stage"] (spMarks K) := by
  refine cal_of D fun f fd F => fn_t F sc_marks_of (fun a _ => rfl) (by decide) fun cdv A outer s H E hr => ⟨_, (pss_cons (ps_setLc2 (i := 2) (own := [("tell", 6), ("row", 7)]) rfl sc_marks_of.nd rfl rfl (sw_true rfl rfl rfl (by rfl)) (xi_seq K (xe_ix K (pv 0) pe_int)) (blkOk_by (by rfl)) (vs1 := [7]) (by decide) (fun _ _ _ _ _ => (pg_name (i := 6) sc_marks_of.nd rfl (by first | exact Or.inl rfl | exact Or.inr rfl))) (fun _ _ _ _ _ => pts_nil) (fun _ _ _ _ _ => (xi_seq K (pv 6))) (fun _ _ _ _ _ => (pg_name (i := 7) sc_marks_of.nd rfl (by first | exact Or.inl rfl | exact Or.inr rfl))) (fun _ _ _ _ _ => pts_nil) (fun _ _ _ _ _ => (xe_ix K (pv 7) (pv 1))))
        (pss_cons (ps_set (i := 3) sc_marks_of.nd rfl (by first | exact Or.inl rfl | exact Or.inr rfl) (pe_lst pa_nil))
        (pss_cons (ps_for PassesOwn.never rfl (xi_seq K (xe_ix K (pv 0) pe_int)) (pg_name (i := 4) sc_marks_of.nd rfl (by first | exact Or.inl rfl | exact Or.inr rfl)) (pss_cons (ps_setLc (i := 5) (own := [("row", 7)]) rfl sc_marks_of.nd rfl rfl (sw_true rfl rfl rfl (by rfl)) (xi_seq K (pv 4)) (blkOk_by (by rfl)) (fun _ _ _ _ _ => (pg_name (i := 7) sc_marks_of.nd rfl (by first | exact Or.inl rfl | exact Or.inr rfl))) (fun _ _ _ _ _ => pts_nil) (fun _ _ _ _ _ => (xe_ix K (pv 7) (pv 1))))
        (pss_one (ps_expr (pe_bm PySem.F.plainAttrs_list PySem.F.slot_list_append PySem.F.type_list_append mt_append (pv 3) (pa_cons (pe_tup (pa_cons (xe_ix K (xe_ix K (pv 4) (pv 1)) (pv 1)) (pa_cons (xe_tuple K B (pa_cons (xe_sorted K dF hr B (pa_cons (xe_ix K (pv 4) (pv 1)) pa_nil)) pa_nil)) (pa_cons (xe_tuple K B (pa_cons (xe_sorted K dF hr B (pa_cons (pv 5) pa_nil)) pa_nil)) pa_nil)))) pa_nil))))))
        (pss_one (ps_ret (pe_tup (pa_cons (xe_tuple K B (pa_cons (pv 2) pa_nil)) (pa_cons (xe_tuple K B (pa_cons (pv 3) pa_nil)) pa_nil)))))))), fun a hp => ?_⟩
  obtain ⟨s, k⟩ := a
  obtain ⟨⟨hw, t1, t2⟩, hk⟩ := hp
  have hn := hw.nl
  have hml := hw.ml
  have htl := hw.tl
  simp only at hk hw hn hml htl t1 t2
  have hwl : (s.tells.flatMap fun t => t.map fun r => dF (r.getD k fz)).length ≤ 1000 := by
    rw [List.length_flatMap]
    have h := sum_le t2
    simp only [List.length_map]
    exact Nat.le_trans h (by omega)
  have ewt : (s.tells.flatMap fun t => t.map fun r => dF (r.getD k fz)) = (wts s k).map dF := by
    unfold wts
    rw [List.map_flatMap]
    congr 1
    funext t
    rw [List.map_map]
    rfl
  refine r_then (r_set (d := .list ((wts s k).map dF)) (ed_l (el_is (el_lc2 (l := s.tells) (enc := dM) (li := fun t => t) (enc2 := dR) (r := fun _ r => dF (r.getD k fz)) (ei_tup (ed_ix (j := 1) (ed_var rfl) ed_int rfl)) (by decide) (by decide) hwl
    (fun t ht => ⟨_, eg_name 6, ei_tup (ed_var rfl), fun r hr => ⟨_, eg_name 7, ed_ix (j := k) (ed_var rfl) (ed_var rfl) (get_map (by rw [(hw.tq t ht).2.2 r hr]; exact hk))⟩⟩)) ewt)) rfl) ?_
  refine r_then (r_setL (el_lst ea_nil (by decide)) rfl) ?_
  refine r_seq (r_for (ds := s.mats.map dM) (ei_tup (ed_ix (j := 0) (ed_var rfl) ed_int rfl)) (fun i ρ1 => ∃ x y, ρ1 = [.dat (dS s), .dat (dNt k), .dat (.list ((wts s k).map dF)), .lv ((s.mats.take i).map (dMk1 k)), x, y, .no, .no]) ⟨_, _, rfl⟩ ?_ (fun ρ1 h => h)) ?_
  · rintro i d ρ1 hd ⟨x, y, rfl⟩
    have hi : i < s.mats.length := by
      have := (List.getElem?_eq_some_iff.mp hd).1
      simpa using this
    rw [List.getElem?_map, List.getElem?_eq_getElem hi] at hd
    cases hd
    have hm := hw.sq _ (List.getElem_mem hi)
    have etk := take_snoc hi
    generalize s.mats[i] = m at *
    refine ⟨_, _, eg_name 4, ?_⟩
    have hmk : m.getD k [] ∈ m := getD_mem (by rw [hm.1]; exact hk)
    refine r_then (r_set (d := .list ((m.map fun r => r.getD k fz).map dF)) (ed_l (el_lcE (l := m) (enc := dR) (r := fun r => dF (r.getD k fz)) (ei_tup (ed_var rfl)) rfl (by rw [hm.1]; omega) (by decide) (fun r hr => ⟨_, eg_name 7, ed_ix (j := k) (ed_var rfl) (ed_var rfl) (get_map (by rw [hm.2 r hr]; exact hk))⟩) (by rw [List.map_map]; rfl))) rfl) ?_
    refine r_app (ds := (s.mats.take i).map (dMk1 k)) (d := dMk1 k m) rfl (ed_tup (ea_cons (ed_ix (j := k) (ed_ix (j := k) (ed_var rfl) (ed_var rfl) (get_map (z := []) (by rw [hm.1]; exact hk))) (ed_var rfl) (get_map (z := fz) (by rw [hm.2 _ hmk]; exact hk)))
      (ea_cons (ed_tupleL (el_sortF (l := m.getD k []) (ed_ix (j := k) (ed_var rfl) (ed_var rfl) (get_map (z := []) (by rw [hm.1]; exact hk))) (.inl rfl)))
      (ea_cons (ed_tupleL (el_sortF (l := m.map fun r => r.getD k fz) (ed_var rfl) (.inr rfl))) ea_nil))) (by show 3 ≤ 1000; decide)) (by rw [List.length_map, List.length_take]; omega) ⟨.dat (dM m), .dat (.list ((m.map fun r => r.getD k fz).map dF)), ?_⟩
    rw [etk, List.map_append]
    rfl
  · rintro ρ1 ⟨x, y, rfl⟩
    refine r_freeze (i := 3) (ds := s.mats.map (dMk1 k)) (by rw [List.length_map, List.take_of_length_le (Nat.le_refl _)]; rfl) ?_
    exact r_ret (d := dMk s k) (ed_tup (ea_cons (ed_tuple (ed_var rfl) (.inr rfl)) (ea_cons (ed_tuple (ed_var rfl) (.inr rfl)) ea_nil)) (by show 2 ≤ 1000; decide)) rfl
end
end My
namespace My
open PySem PySem.Spec PyProof.Rows L2
/-- does the stage x, named last, go with those in o -/
def fit1 (o : List Nat) (x : Nat) (p : Mx × Mx) (q : Nat × Nat) : Bool := decide (at2 p.1 x q.1 = at2 p.2 o.length q.2) && decide (at2 p.1 q.1 x = at2 p.2 q.2 o.length)
def fitM (o : List Nat) (x : Nat) (p : Mx × Mx) : Bool := (o ++ [x]).zipIdx.all (fit1 o x p)
def fitB (s t : Sheet) (o : List Nat) (x : Nat) : Bool := (s.mats.zip t.mats).all (fitM o x)
def dPr (p : Mx × Mx) : PyData := .tuple [dM p.1, dM p.2]
theorem zip_dM (a b : List Mx) : zipD (a.map dM) (b.map dM) = (a.zip b).map dPr := by
  unfold zipD
  rw [List.zipWith_map_left, List.zipWith_map_right, List.zip, List.map_zipWith]
  rfl
def dQr (q : Nat × Nat) : PyData := .tuple [.int (q.2 : Int), dNt q.1]
theorem enum_nt (o : List Nat) : enumD (o.map dNt) = o.zipIdx.map dQr := by
  unfold enumD
  rw [List.zipIdx_map, List.map_map]
  rfl
theorem at2_ix {m : Mx} {i j : Nat} (hi : i < m.length) (hj : j < (m.getD i []).length) : ∃ r, (m.map dR)[i]? = some (dR r) ∧ (r.map dF)[j]? = some (dF (at2 m i j)) := ⟨m.getD i [], get_map hi, get_map hj⟩
theorem at2_sq {s : Sheet} (hw : Wf s) {m : Mx} (hm : m ∈ s.mats) {i j : Nat} (hi : i < s.n) (hj : j < s.n) : (m.map dR)[i]? = some (dR (m.getD i [])) ∧ ((m.getD i []).map dF)[j]? = some (dF (at2 m i j)) := by
  have h := hw.sq m hm
  have h1 : i < m.length := by rw [h.1]; exact hi
  exact ⟨get_map h1, get_map (by rw [h.2 _ (getD_mem h1)]; exact hj)⟩
section
variable {P : Program} {w : World} {K : PySem.W.Frag} {mg : Str → Option Value} {base : Heap}
structure FitIn where
  s : Sheet
  t : Sheet
  o : List Nat
  x : Nat
structure FitPre (a : FitIn) : Prop where
  ws : Wf a.s
  wt : Wf a.t
  nn : a.t.n = a.s.n
  ol : a.o.length < a.s.n
  lt : ∀ k ∈ a.o ++ [a.x], k < a.s.n
def spFits (K : PySem.W.Frag) : Sp := spT K (fun a : FitIn => [dS a.s, dS a.t, dO (a.o ++ [a.x])]) FitPre (fun a d => d = .bool (fitB a.s a.t a.o a.x))
theorem ok_fits_so_far (D : Df K mg "fits_so_far" s_fits_so_far ["sheet", "other", "order"]) (B : Blt mg) : Cal P w K mg base 1 "fits_so_far" ["sheet", "other", "order"] (spFits K) := by
  refine cal_of D fun f fd F => fn_t F sc_fits_so_far (fun a _ => rfl) (by decide) fun cdv A outer s H E hr => ⟨_, (pss_cons (ps_par (i := 3) (j := 4) (by rfl) sc_fits_so_far.nd rfl rfl (by decide) rfl rfl (pa_cons (pe_op op_sub (xe_len K B (pa_cons (pv 2) pa_nil)) pe_int) (pa_cons (xe_ix K (pv 2) (pe_un un_neg pe_int)) pa_nil)) (by rfl))
        (pss_cons (ps_for PassesOwn.never rfl (xi_zip K B (pa_cons (xe_ix K (pv 0) pe_int) (pa_cons (xe_ix K (pv 1) pe_int) pa_nil))) (xg_tup K (pgs_cons (pg_name (i := 5) sc_fits_so_far.nd rfl (by first | exact Or.inl rfl | exact Or.inr rfl)) (pgs_cons (pg_name (i := 6) sc_fits_so_far.nd rfl (by first | exact Or.inl rfl | exact Or.inr rfl)) pgs_nil))) (pss_one (ps_for PassesOwn.never rfl (xi_enumT K B (pa_cons (pv 2) pa_nil)) (xg_tup K (pgs_cons (pg_name (i := 7) sc_fits_so_far.nd rfl (by first | exact Or.inl rfl | exact Or.inr rfl)) (pgs_cons (pg_name (i := 8) sc_fits_so_far.nd rfl (by first | exact Or.inl rfl | exact Or.inr rfl)) pgs_nil))) (pss_one (ps_if (PW.pt (pw_or (xt_ne K hr (xe_ix K (xe_ix K (pv 5) (pv 4)) (pv 8)) (xe_ix K (xe_ix K (pv 6) (pv 3)) (pv 7))) (pw_or1 (xt_ne K hr (xe_ix K (xe_ix K (pv 5) (pv 8)) (pv 4)) (xe_ix K (xe_ix K (pv 6) (pv 7)) (pv 3)))))) (pss_one (ps_ret pe_bl)) pss_nil)))))
        (pss_one (ps_ret pe_bl)))), fun a hp => ?_⟩
  obtain ⟨s, t, o, x⟩ := a
  obtain ⟨ws, wt, nn, ol, lt⟩ := hp
  simp only at ws wt nn ol lt
  have hn := ws.nl
  have hm1 := ws.ml
  have hx : x < s.n := lt x (by simp)
  refine r_then (r_par (c := .int (o.length : Int)) (d := dNt x) (ea_cons (ed_is (ed_sub (ed_len (ed_var rfl) (.inl rfl)) ed_int) (by simp)) (ea_cons (ed_last (ds := o.map dNt) (ed_is (ed_var (d := dO (o ++ [x])) rfl) (by unfold dO; rw [List.map_append]; rfl)) (ed_neg ed_int)) ea_nil)) rfl) ?_
  refine r_seq (r_for (ds := (s.mats.zip t.mats).map dPr) (by rw [← zip_dM]; exact ei_zip (ea_cons (ed_ix (j := 0) (ed_var rfl) ed_int rfl) (ea_cons (ed_ix (j := 0) (ed_var rfl) ed_int rfl) ea_nil)) (.inl ⟨rfl, rfl⟩))
    (fun i ρ1 => (∃ a b c d, ρ1 = [.dat (dS s), .dat (dS t), .dat (dO (o ++ [x])), .dat (.int (o.length : Int)), .dat (dNt x), a, b, c, d]) ∧ ((s.mats.zip t.mats).take i).all (fitM o x) = true) ⟨⟨_, _, _, _, rfl⟩, rfl⟩ ?_ (fun ρ1 h => h)) ?_
  · rintro i d ρ1 hd ⟨⟨a, b, c, e, rfl⟩, hall⟩
    have hi : i < (s.mats.zip t.mats).length := by
      have := (List.getElem?_eq_some_iff.mp hd).1
      simpa using this
    rw [List.getElem?_map, List.getElem?_eq_getElem hi] at hd
    cases hd
    have hmem : (s.mats.zip t.mats)[i] ∈ s.mats.zip t.mats := List.getElem_mem hi
    have etk := take_snoc hi
    generalize (s.mats.zip t.mats)[i] = p at *
    obtain ⟨m, g⟩ := p
    have hm : m ∈ s.mats := (List.of_mem_zip hmem).1
    have hg : g ∈ t.mats := (List.of_mem_zip hmem).2
    refine ⟨_, _, eg_pair 5 6, ?_⟩
    refine r_for (ds := (o ++ [x]).zipIdx.map dQr) (by rw [← enum_nt]; exact ei_enumT (ed_var rfl))
      (fun j ρ1 => (∃ c d, ρ1 = [.dat (dS s), .dat (dS t), .dat (dO (o ++ [x])), .dat (.int (o.length : Int)), .dat (dNt x), .dat (dM m), .dat (dM g), c, d]) ∧ ((o ++ [x]).zipIdx.take j).all (fit1 o x (m, g)) = true) ⟨⟨_, _, rfl⟩, rfl⟩ ?_ ?_
    · rintro j d ρ1 hd ⟨⟨c, e, rfl⟩, hall2⟩
      have hj : j < (o ++ [x]).zipIdx.length := by
        have := (List.getElem?_eq_some_iff.mp hd).1
        simpa using this
      rw [List.getElem?_map, List.getElem?_eq_getElem hj] at hd
      cases hd
      have hmem2 : (o ++ [x]).zipIdx[j] ∈ (o ++ [x]).zipIdx := List.getElem_mem hj
      have etk2 := take_snoc hj
      generalize (o ++ [x]).zipIdx[j] = q at *
      obtain ⟨st, k⟩ := q
      have hk := List.mem_zipIdx hmem2
      simp only [List.length_append, List.length_singleton, Nat.zero_add, Nat.sub_zero] at hk
      have hst : st < s.n := lt st (by rw [hk.2.2]; exact List.getElem_mem _)
      have hkn : k < s.n := by omega
      refine ⟨_, _, eg_pair 7 8, ?_⟩
      have a1 := at2_sq ws hm hx hst
      have a2 := at2_sq ws hm hst hx
      have b1 := at2_sq wt hg (i := o.length) (j := k) (by omega) (by omega)
      have b2 := at2_sq wt hg (i := k) (j := o.length) (by omega) (by omega)
      have hb : (!(fit1 o x (m, g) (st, k))) = ((!decide (at2 m x st = at2 g o.length k)) || (!decide (at2 m st x = at2 g k o.length))) := by
        unfold fit1
        simp [Bool.not_and]
      refine r_if (b := !(fit1 o x (m, g) (st, k))) (et_is (et_or (et_cmp (ed_ne (ed_ix (j := st) (ed_ix (j := x) (ed_var rfl) (ed_var rfl) a1.1) (ed_var rfl) a1.2) (ed_ix (j := k) (ed_ix (j := o.length) (ed_var rfl) (ed_var rfl) b1.1) (ed_var rfl) b1.2) ((sh_F _).ok (by decide)) ((sh_F _).ok (by decide)) (congrArg _ (eqe_F _ _))))
        fun _ => et_cmp (ed_ne (ed_ix (j := x) (ed_ix (j := st) (ed_var rfl) (ed_var rfl) a2.1) (ed_var rfl) a2.2) (ed_ix (j := o.length) (ed_ix (j := k) (ed_var rfl) (ed_var rfl) b2.1) (ed_var rfl) b2.2) ((sh_F _).ok (by decide)) ((sh_F _).ok (by decide)) (congrArg _ (eqe_F _ _)))) hb.symm) (fun hf => ?_) fun hf => ?_
      · refine r_ret ed_bl ?_
        have z : fitB s t o x = false := by
          unfold fitB
          rw [List.all_eq_false]
          refine ⟨(m, g), hmem, ?_⟩
          rw [Bool.not_eq_true]
          unfold fitM
          rw [List.all_eq_false]
          exact ⟨(st, k), hmem2, by simpa using hf⟩
        rw [z]
      · refine r_next ⟨⟨_, _, rfl⟩, ?_⟩
        rw [etk2, List.all_append, hall2]
        simpa using hf
    · rintro ρ1 ⟨⟨c, e, rfl⟩, hall2⟩
      refine ⟨⟨_, _, _, _, rfl⟩, ?_⟩
      rw [List.length_map, List.take_of_length_le (Nat.le_refl _)] at hall2
      rw [etk, List.all_append, hall]
      simpa [fitM] using hall2
  · rintro ρ1 ⟨⟨a, b, c, d, rfl⟩, hall⟩
    refine r_ret ed_bl ?_
    rw [List.length_map, List.take_of_length_le (Nat.le_refl _)] at hall
    have z : fitB s t o x = true := hall
    rw [z]
end
end My
namespace My
open PySem PySem.Spec PyProof.Rows L2
/-- the search: r stages are left to be named -/
def ofrom (s t : Sheet) (ch : List (List Nat)) : Nat → List Nat → Option (List Nat)
  | 0, o => some o
  | r + 1, o => (ch.getD o.length []).findSome? fun x => if x ∈ o then none else if fitB s t o x = true then ofrom s t ch r (o ++ [x]) else none
def dOpt : Option (List Nat) → PyData
  | none => .none
  | some o => dO o
def dC (c : List Nat) : PyData := .list (c.map dNt)
def dCh (ch : List (List Nat)) : PyData := .list (ch.map dC)
theorem any_nt (o : List Nat) (x : Nat) : ((o.map dNt).any fun z => PyData.eqv z (dNt x)) = decide (x ∈ o) := by
  rw [List.any_map]
  have e : ((fun z => PyData.eqv z (dNt x)) ∘ dNt) = fun k => decide (k = x) := by
    funext k
    exact eqe_nt k x
  rw [e]
  by_cases h : x ∈ o
  · rw [decide_eq_true h, List.any_eq_true]
    exact ⟨x, h, by simp⟩
  · rw [decide_eq_false h, List.any_eq_false]
    intro y hy
    simp only [decide_eq_true_eq]
    intro e
    exact h (e ▸ hy)
theorem dO_snoc (o : List Nat) (x : Nat) : PyData.tuple (o.map dNt ++ [dNt x]) = dO (o ++ [x]) := by
  unfold dO
  rw [List.map_append]
  rfl
structure OfIn where
  s : Sheet
  t : Sheet
  ch : List (List Nat)
  o : List Nat
structure OfPre (r : Nat) (a : OfIn) : Prop where
  ws : Wf a.s
  wt : Wf a.t
  nn : a.t.n = a.s.n
  cl : a.ch.length = a.s.n
  cc : ∀ c ∈ a.ch, c.length ≤ 100 ∧ ∀ k ∈ c, k < a.s.n
  ol : a.o.length ≤ a.s.n
  orr : a.s.n + 1 ≤ a.o.length + r
  lt : ∀ k ∈ a.o, k < a.s.n
def spFrom (K : PySem.W.Frag) (r : Nat) : Sp := spT K (fun a : OfIn => [dS a.s, dS a.t, dCh a.ch, dO a.o]) (OfPre r) (fun a d => d = dOpt (ofrom a.s a.t a.ch (a.s.n - a.o.length) a.o))
section
variable {P : Program} {w : World} {K : PySem.W.Frag} {mg : Str → Option Value} {base : Heap}
theorem Cal.mono {j k : Nat} {x : Str} {ps : List Str} {sp : Sp} (C : Cal P w K mg base j x ps sp) (h : j ≤ k) : Cal P w K mg base k x ps sp := by
  obtain ⟨f, fd, F, m, kp, b⟩ := C.ex
  exact ⟨f, fd, F.mono h, m, kp, b⟩
theorem isNo_dO (o : List Nat) : isNo (dO o) = false := rfl
theorem ok_order_from (D : Df K mg "order_from" s_order_from ["sheet", "other", "choices", "order"]) (B : Blt mg) (c_fits_so_far : Cal P w K mg base 1 "fits_so_far" ["sheet", "other", "order"] (spFits K)) :
    ∀ r : Nat, Cal P w K mg base (r + 1) "order_from" ["sheet", "other", "choices", "order"] (spFrom K r)
  | 0 => (cal_never D fun a h => by have h1 := h.ol; have h2 := h.orr; omega).mono (by omega)
  | r + 1 => by
    have c_order_from := ok_order_from D B c_fits_so_far r
    refine cal_of D fun f fd F => fn_t F sc_order_from (fun a _ => rfl) (by decide) fun cdv A outer s H E hr => ⟨_, (pss_cons (ps_if (xt_eq K hr (xe_len K B (pa_cons (pv 3) pa_nil)) (xe_len K B (pa_cons (pv 2) pa_nil))) (pss_one (ps_ret (pv 3))) pss_nil)
        (pss_cons (ps_for PassesOwn.never rfl (xi_seq K (xe_ix K (pv 2) (xe_len K B (pa_cons (pv 3) pa_nil)))) (pg_name (i := 4) sc_order_from.nd rfl (by first | exact Or.inl rfl | exact Or.inr rfl)) (pss_one (ps_if (PW.pt (pw_and (xt_nin K hr (pv 4) (pv 3)) (pw_and1 (pt_val (pe_cal c_fits_so_far hr (by omega) rfl (pa_cons (pv 0) (pa_cons (pv 1) (pa_cons (pe_tup (xa_star K (pv 3) (pa_cons (pv 4) pa_nil))) pa_nil)))))))) (pss_cons (ps_set (i := 5) sc_order_from.nd rfl (by first | exact Or.inl rfl | exact Or.inr rfl) (pe_cal c_order_from hr (by omega) rfl (pa_cons (pv 0) (pa_cons (pv 1) (pa_cons (pv 2) (pa_cons (pe_tup (xa_star K (pv 3) (pa_cons (pv 4) pa_nil))) pa_nil))))))
        (pss_one (ps_if (pt_cmpR op_notN' (pv 5) pe_non (nomark _)) (pss_one (ps_ret (pv 5))) pss_nil))) pss_nil)))
        (pss_one (ps_ret pe_non)))), fun a hp => ?_⟩
    obtain ⟨s, t, ch, o⟩ := a
    obtain ⟨ws, wt, nn, cl, cc, ol, orr, lt⟩ := hp
    simp only at ws wt nn cl cc ol orr lt
    have hn := ws.nl
    refine r_guard (b := decide (o.length = ch.length)) (et_cmp (ed_is (ed_eqI (ed_len (ds := o.map dNt) (ed_var rfl) (.inl rfl)) (ed_len (ds := ch.map dC) (ed_var rfl) (.inr rfl))) (by simp only [List.length_map]; congr 1; exact decide_eq_decide.mpr (by omega)))) (fun hb => ?_) fun hb => ?_
    · have hb := of_decide_eq_true hb
      refine r_ret (ed_var rfl) ?_
      show dO o = dOpt (ofrom s t ch (s.n - o.length) o)
      rw [show s.n - o.length = 0 by omega]
      rfl
    · have hb := of_decide_eq_false hb
      have hol : o.length < ch.length := by omega
      have hc := cc _ (getD_mem (z := []) hol)
      have eo : s.n - o.length = (s.n - (o.length + 1)) + 1 := by omega
      have eout : ofrom s t ch (s.n - o.length) o = (ch.getD o.length []).findSome? fun x => if x ∈ o then none else if fitB s t o x = true then ofrom s t ch (s.n - (o.length + 1)) (o ++ [x]) else none := by
        rw [eo]
        rfl
      generalize hF : (fun x => if x ∈ o then none else if fitB s t o x = true then ofrom s t ch (s.n - (o.length + 1)) (o ++ [x]) else none) = Fx at *
      generalize hcs : ch.getD o.length [] = cs at *
      refine r_seq (r_for (ds := cs.map dNt) (ei_list (ed_ixL (j := o.length) (ed_var rfl) (ed_is (ed_len (ds := o.map dNt) (ed_var rfl) (.inl rfl)) (by rw [List.length_map])) (by rw [← hcs]; exact get_map hol)))
        (fun i ρ1 => (∃ a b, ρ1 = [.dat (dS s), .dat (dS t), .dat (dCh ch), .dat (dO o), a, b]) ∧ (cs.take i).findSome? Fx = none) ⟨⟨_, _, rfl⟩, rfl⟩ ?_ (fun ρ1 h => h)) ?_
      · rintro i d ρ1 hd ⟨⟨a, b, rfl⟩, hno⟩
        have hi : i < cs.length := by
          have := (List.getElem?_eq_some_iff.mp hd).1
          simpa using this
        rw [List.getElem?_map, List.getElem?_eq_getElem hi] at hd
        cases hd
        have etk := take_snoc hi
        have edr : cs = cs.take (i + 1) ++ cs.drop (i + 1) := (List.take_append_drop _ _).symm
        have hx := hc.2 _ (List.getElem_mem hi)
        generalize cs[i] = x at *
        refine ⟨_, _, eg_name 4, ?_⟩
        have pre : FitPre ⟨s, t, o, x⟩ := ⟨ws, wt, nn, by show o.length < s.n; omega, fun k hk => by
          rcases List.mem_append.mp hk with h | h
          · exact lt k h
          · rw [List.mem_singleton.mp h]; exact hx⟩
        have star : EvD K _ [.dat (dS s), .dat (dS t), .dat (dCh ch), .dat (dO o), .dat (dNt x), b] (dO (o ++ [x])) := ed_is (ed_tup (K := K) (ea_star (es := o.map dNt) (ed_var (i := 3) rfl) (ea_cons (ed_var (i := 4) rfl) ea_nil)) (by simp; omega)) (dO_snoc o x)
        refine r_if (b := !decide (x ∈ o) && fitB s t o x) (et_and (et_cmp (ed_notIn (ep_of (P := fun z => z = dNt x) (ed_var rfl) rfl) (ed_var rfl) (.inr rfl) ((sh_O _).ok (by decide)) (fun c hc => by rw [hc]; exact ⟨(sh_nt x).ok (by decide), by rw [any_nt]⟩)))
          fun _ => et_val (ed_of (ep_call (FitIn.mk s t o x) (ea_cons (ed_var rfl) (ea_cons (ed_var rfl) (ea_cons star ea_nil))) pre) fun _ h => h)) (fun hb => ?_) fun hb => ?_
        · simp only [Bool.and_eq_true, Bool.not_eq_true', decide_eq_false_iff_not] at hb
          have pre2 : OfPre r ⟨s, t, ch, o ++ [x]⟩ := ⟨ws, wt, nn, cl, cc, by simp; omega, by simp; omega, pre.lt⟩
          have eF : Fx x = ofrom s t ch (s.n - (o.length + 1)) (o ++ [x]) := by rw [← hF]; simp only [if_neg hb.1, if_pos hb.2]
          have el : (o ++ [x]).length = o.length + 1 := by simp
          refine r_then (r_set (d := dOpt (Fx x)) (ed_of (ep_call (OfIn.mk s t ch (o ++ [x])) (ea_cons (ed_var rfl) (ea_cons (ed_var rfl) (ea_cons (ed_var rfl) (ea_cons star ea_nil)))) pre2) fun e he => by rw [he, eF]; show dOpt (ofrom s t ch (s.n - (o ++ [x]).length) (o ++ [x])) = _; rw [el]) rfl) ?_
          refine r_if (b := !isNo (dOpt (Fx x))) (et_cmp (ed_notN (ed_var rfl))) (fun hz => ?_) fun hz => ?_
          · cases hfx : Fx x with
            | none => rw [hfx] at hz; exact nomatch hz
            | some p =>
              refine r_ret (ed_var rfl) ?_
              show dOpt (some p) = dOpt (ofrom s t ch (s.n - o.length) o)
              rw [eout, edr, etk, List.findSome?_append, List.findSome?_append, hno]
              simp [hfx]
          · cases hfx : Fx x with
            | some p => rw [hfx] at hz; exact nomatch hz
            | none =>
              refine r_next ⟨⟨_, _, rfl⟩, ?_⟩
              rw [etk, List.findSome?_append, hno]
              simp [hfx]
        · refine r_next ⟨⟨_, _, rfl⟩, ?_⟩
          have eF : Fx x = none := by
            rw [← hF]
            by_cases hxo : x ∈ o
            · simp only [if_pos hxo]
            · have hfb : fitB s t o x = false := by simpa [hxo] using hb
              simp only [if_neg hxo, hfb]
              rfl
          rw [etk, List.findSome?_append, hno]
          simp [eF]
      · rintro ρ1 ⟨⟨a, b, rfl⟩, hno⟩
        rw [List.length_map, List.take_of_length_le (Nat.le_refl _)] at hno
        refine r_ret ed_non ?_
        show PyData.none = dOpt (ofrom s t ch (s.n - o.length) o)
        rw [eout, hno]
        rfl
end
end My
namespace My
open PySem PySem.Spec PyProof.Rows L2
def choicesM (s t : Sheet) : List (List Nat) := (List.range s.n).map fun i => (List.range s.n).filter fun k => PyData.eqv (dMk s k) (dMk t i)
def matchM (s t : Sheet) : Option (List Nat) := ofrom s t (choicesM s t) s.n []
theorem sh_Mk (s : Sheet) (k : Nat) : Sh 6 (dMk s k) := sh_tup fun d hd => by
  simp only [List.mem_cons, List.not_mem_nil, or_false] at hd
  rcases hd with rfl | rfl
  · exact (sh_R _).mono (by decide)
  · refine sh_map (n := 4) (fun m => ?_) _
    refine sh_tup fun d hd => ?_
    simp only [List.mem_cons, List.not_mem_nil, or_false] at hd
    rcases hd with rfl | rfl | rfl
    · exact (sh_F _).mono (by decide)
    · exact (sh_R _).mono (by decide)
    · exact (sh_R _).mono (by decide)
structure MatchPre (a : Sheet × Sheet) : Prop where
  ss : Small a.1
  st : Small a.2
  nn : a.2.n = a.1.n
  ml : a.2.mats.length = a.1.mats.length
  tl : a.2.tells.length = a.1.tells.length
/-- a tuple or a list of numbers -/
def dTh (tup : Bool) (l : List Nat) : PyData := if tup = true then dO l else dC l
structure ImIn where
  s : Sheet
  t : Sheet
  tup : Bool
  l : List Nat
def isMatB (s t : Sheet) (l : List Nat) : Bool := l.isPerm (List.range s.n) && decide (renS s l = t)
section
variable {P : Program} {w : World} {K : PySem.W.Frag} {mg : Str → Option Value} {base : Heap}
def spMatch (K : PySem.W.Frag) : Sp := spT K (fun a : Sheet × Sheet => [dS a.1, dS a.2]) MatchPre (fun a d => d = dOpt (matchM a.1 a.2))
theorem ok_matching (D : Df K mg "matching" s_matching ["sheet", "other"]) (B : Blt mg) (c_tuple_of : Cal P w K mg base 6 "tuple_of" ["thing"] (spTO K 6)) (c_stages_of : Cal P w K mg base 1 "stages_of" ["sheet"] (spStages K))
    (c_marks_of : Cal P w K mg base 1 "marks_of" ["sheet", "stage"] (spMarks K)) (c_order_from : Cal P w K mg base 102 "order_from" ["sheet", "other", "choices", "order"] (spFrom K 101)) : Cal P w K mg base 103 "matching" ["sheet", "other"] (spMatch K) := by
  refine cal_of D fun f fd F => fn_t F sc_matching (fun a _ => rfl) (by decide) fun cdv A outer s H E hr => ⟨_, (pss_cons (ps_asg (pe_tup (pa_cons (pe_cal c_tuple_of hr (by omega) rfl (pa_cons (pv 0) pa_nil)) (pa_cons (pe_cal c_tuple_of hr (by omega) rfl (pa_cons (pv 1) pa_nil)) pa_nil))) (xg_tup K (pgs_cons (pg_name (i := 2) sc_matching.nd rfl (by first | exact Or.inl rfl | exact Or.inr rfl)) (pgs_cons (pg_name (i := 3) sc_matching.nd rfl (by first | exact Or.inl rfl | exact Or.inr rfl)) pgs_nil))))
        (pss_cons (ps_set (i := 4) sc_matching.nd rfl (by first | exact Or.inl rfl | exact Or.inr rfl) (pe_cal c_stages_of hr (by omega) rfl (pa_cons (pv 2) pa_nil)))
        (pss_cons (ps_if (PW.pt (pw_or (xt_ne K hr (pv 4) (pe_cal c_stages_of hr (by omega) rfl (pa_cons (pv 3) pa_nil))) (pw_or (xt_ne K hr (xe_len K B (pa_cons (xe_ix K (pv 2) pe_int) pa_nil)) (xe_len K B (pa_cons (xe_ix K (pv 3) pe_int) pa_nil))) (pw_or1 (xt_ne K hr (xe_len K B (pa_cons (xe_ix K (pv 2) pe_int) pa_nil)) (xe_len K B (pa_cons (xe_ix K (pv 3) pe_int) pa_nil))))))) (pss_one (ps_ret pe_non)) pss_nil)
        (pss_cons (ps_set (i := 5) sc_matching.nd rfl (by first | exact Or.inl rfl | exact Or.inr rfl) (pe_lc (own := [("stage", 7)]) rfl sc_matching.nd (xi_range B (pa_cons (pv 4) pa_nil)) (blkOk_by (by rfl)) (fun _ _ _ _ _ => (pg_name (i := 7) sc_matching.nd rfl (by first | exact Or.inl rfl | exact Or.inr rfl))) (fun _ _ _ _ _ => pts_nil) (fun _ _ _ _ _ => (pe_cal c_marks_of hr (by omega) rfl (pa_cons (pv 2) (pa_cons (pv 7) pa_nil))))))
        (pss_cons (ps_setLc (i := 6) (own := [("stage", 7)]) rfl sc_matching.nd rfl rfl (sw_true rfl rfl rfl (by rfl)) (xi_range B (pa_cons (pv 4) pa_nil)) (blkOk_by (by rfl)) (fun _ _ _ _ _ => (pg_name (i := 7) sc_matching.nd rfl (by first | exact Or.inl rfl | exact Or.inr rfl))) (fun _ _ _ _ _ => pts_nil) (fun _ _ _ _ _ => (pe_lc (own := [("k", 8)]) rfl sc_matching.nd (xi_range B (pa_cons (pv 4) pa_nil)) (blkOk_by (by rfl)) (fun _ _ _ _ _ => (pg_name (i := 8) sc_matching.nd rfl (by first | exact Or.inl rfl | exact Or.inr rfl))) (fun _ _ _ _ _ => (pts_one (xt_eq K hr (xe_ix K (pv 5) (pv 8)) (pe_cal c_marks_of hr (by omega) rfl (pa_cons (pv 3) (pa_cons (pv 7) pa_nil)))))) (fun _ _ _ _ _ => (pv 8)))))
        (pss_one (ps_ret (pe_cal c_order_from hr (by omega) rfl (pa_cons (pv 2) (pa_cons (pv 3) (pa_cons (pv 6) (pa_cons (pe_tup pa_nil) pa_nil)))))))))))), fun a hp => ?_⟩
  obtain ⟨s, t⟩ := a
  obtain ⟨ss, st, nn, ml, tl⟩ := hp
  simp only at ss st nn ml tl
  have ws := ss.wf
  have wt := st.wf
  have hn := ws.nl
  refine r_then (r_asgG (ed_tup (ds := [dS s, dS t]) (ea_cons (ed_of (ep_call (dS s) (ea_cons (ed_var rfl) ea_nil) (tok_S ws)) fun _ h => h) (ea_cons (ed_of (ep_call (dS t) (ea_cons (ed_var rfl) ea_nil) (tok_S wt)) fun _ h => h) ea_nil)) (by show 2 ≤ 1000; decide)) (eg_pair 2 3) rfl) ?_
  refine r_then (r_set (d := .int (s.n : Int)) (ed_of (ep_call s (ea_cons (ed_var rfl) ea_nil) ws) fun _ h => h) rfl) ?_
  refine r_guard (b := false) (et_is (et_or (et_cmp (ed_neI (m := s.n) (n := t.n) (ed_var rfl) (ed_of (ep_call t (ea_cons (ed_var rfl) ea_nil) wt) fun _ h => h)))
    fun _ => et_or (et_cmp (ed_neI (ed_len (ds := s.mats.map dM) (ed_ix (j := 0) (ed_var rfl) ed_int rfl) (.inl rfl)) (ed_len (ds := t.mats.map dM) (ed_ix (j := 0) (ed_var rfl) ed_int rfl) (.inl rfl))))
      fun _ => et_cmp (ed_neI (ed_len (ds := s.tells.map dM) (ed_ix (j := 1) (ed_var rfl) ed_int rfl) (.inl rfl)) (ed_len (ds := t.tells.map dM) (ed_ix (j := 1) (ed_var rfl) ed_int rfl) (.inl rfl)))) (by simp [nn, ml, tl])) (fun h => nomatch h) fun _ => ?_
  refine r_then (r_set (d := .list ((List.range s.n).map (dMk s))) (ed_l (el_lcE (l := List.range s.n) (enc := dNt) (r := dMk s) (ei_range (n := s.n) (ed_var rfl) (by omega)) rfl (by rw [List.length_range]; omega) (by decide) (fun k hk => ⟨_, eg_name 7, ed_of (ep_call (s, k) (ea_cons (ed_var rfl) (ea_cons (ed_var rfl) ea_nil)) ⟨ss, List.mem_range.mp hk⟩) fun _ h => h⟩) rfl)) rfl) ?_
  refine r_then (r_set (d := dCh (choicesM s t)) (ed_l (el_lcE (l := List.range s.n) (enc := dNt) (r := fun i => dC ((List.range s.n).filter fun k => PyData.eqv (dMk s k) (dMk t i))) (ei_range (n := s.n) (ed_var rfl) (by omega)) rfl (by rw [List.length_range]; omega) (by decide) (fun i hi => ⟨_, eg_name 7,
    ed_l (el_lcFE (l := List.range s.n) (enc := dNt) (p := fun k => PyData.eqv (dMk s k) (dMk t i)) (r := dNt) (ei_range (n := s.n) (ed_var rfl) (by omega)) rfl (by rw [List.length_range]; omega) (by decide) (fun k hk => ⟨_, eg_name 8,
      et_cmp (ed_eq (ed_ixL (j := k) (d := dMk s k) (ed_var rfl) (ed_var rfl) (by rw [List.getElem?_map, List.getElem?_range (List.mem_range.mp hk)]; rfl)) (ed_of (ep_call (t, i) (ea_cons (ed_var rfl) (ea_cons (ed_var rfl) ea_nil)) ⟨st, by show i < t.n; rw [nn]; exact List.mem_range.mp hi⟩) fun _ h => h) ((sh_Mk _ _).ok (by decide)) ((sh_Mk _ _).ok (by decide)) rfl), fun _ => ed_var rfl⟩) rfl)⟩)
    (by unfold choicesM; rw [List.map_map]; rfl))) rfl) ?_
  have pre : OfPre 101 ⟨s, t, choicesM s t, []⟩ := ⟨ws, wt, nn, by unfold choicesM; simp, fun c hc => by
    unfold choicesM at hc
    obtain ⟨i, hi, rfl⟩ := List.mem_map.mp hc
    refine ⟨Nat.le_trans (List.length_filter_le _ _) (by rw [List.length_range]; exact hn), fun k hk => List.mem_range.mp (List.mem_filter.mp hk).1⟩, Nat.zero_le _, by show s.n + 1 ≤ 0 + 101; omega, fun k hk => nomatch hk⟩
  exact r_ret (ed_of (ep_call (OfIn.mk s t (choicesM s t) []) (ea_cons (ed_var rfl) (ea_cons (ed_var rfl) (ea_cons (ed_var rfl) (ea_cons (ed_tup (ds := []) ea_nil (by decide)) ea_nil)))) pre) fun _ h => h) rfl
structure ImPre (a : ImIn) : Prop where
  ws : Wf a.s
  wt : Wf a.t
  ll : a.l.length ≤ 100
def spIsM (K : PySem.W.Frag) : Sp := spT K (fun a : ImIn => [dS a.s, dS a.t, dTh a.tup a.l]) ImPre (fun a d => d = .bool (a.tup && isMatB a.s a.t a.l))
theorem ok_is_matching (D : Df K mg "is_matching" s_is_matching ["sheet", "other", "thing"]) (B : Blt mg) (c_is_number : Cal P w K mg base 1 "is_number" ["thing"] (spIsNumber K)) (c_tuple_of : Cal P w K mg base 6 "tuple_of" ["thing"] (spTO K 6)) (c_stages_of : Cal P w K mg base 1 "stages_of" ["sheet"] (spStages K))
    (c_renamed : Cal P w K mg base 7 "renamed" ["sheet", "order"] (spRenamed K)) : Cal P w K mg base 8 "is_matching" ["sheet", "other", "thing"] (spIsM K) := by
  refine cal_of D fun f fd F => fn_t F sc_is_matching (fun a _ => rfl) (by decide) fun cdv A outer s H E hr => ⟨_, (pss_cons (ps_set (i := 3) sc_is_matching.nd rfl (by first | exact Or.inl rfl | exact Or.inr rfl) (pe_cal c_tuple_of hr (by omega) rfl (pa_cons (pv 0) pa_nil)))
        (pss_cons (ps_if (PW.pt (pw_or (pt_not (pt_val (xe_isi K B (pa_cons (pv 2) (pa_cons (xe_ty (x := "tuple") (T := "tuple") (by decide +kernel) B.b_tuple) pa_nil))))) (pw_or1 (pt_not (pt_val (xe_all K B (pa_cons (pe_lc (own := [("k", 4)]) rfl sc_is_matching.nd (xi_seq K (pv 2)) (blkOk_by (by rfl)) (fun _ _ _ _ _ => (pg_name (i := 4) sc_is_matching.nd rfl (by first | exact Or.inl rfl | exact Or.inr rfl))) (fun _ _ _ _ _ => pts_nil) (fun _ _ _ _ _ => (pe_cal c_is_number hr (by omega) rfl (pa_cons (pv 4) pa_nil)))) pa_nil))))))) (pss_one (ps_ret pe_bl)) pss_nil)
        (pss_one (ps_ret (pe_and (xe_eq K hr (xe_sorted K PyData.int hr B (pa_cons (pv 2) pa_nil)) (xe_listRg B (pe_cal c_stages_of hr (by omega) rfl (pa_cons (pv 3) pa_nil)))) (pe_one (xe_eq K hr (pe_cal c_renamed hr (by omega) rfl (pa_cons (pv 3) (pa_cons (pv 2) pa_nil))) (pe_cal c_tuple_of hr (by omega) rfl (pa_cons (pv 1) pa_nil))))))))), fun a hp => ?_⟩
  obtain ⟨s, t, tup, l⟩ := a
  obtain ⟨ws, wt, ll⟩ := hp
  simp only at ws wt ll
  have hn := ws.nl
  refine r_then (r_set (d := dS s) (ed_of (ep_call (dS s) (ea_cons (ed_var rfl) ea_nil) (tok_S ws)) fun _ h => h) rfl) ?_
  cases tup with
  | false =>
    refine r_guard (b := true) (et_is (et_or (a := true) (b := false) (et_not (b := false) (et_val (ed_isi (s := "list") (ed_var (d := dC l) rfl) rfl (by decide +kernel)))) fun h => nomatch h) rfl) (fun _ => r_ret ed_bl rfl) fun h => nomatch h
  | true =>
    refine r_guard (b := false) (et_is (et_or (et_not (b := true) (et_val (ed_isi (s := "tuple") (ed_var (d := dO l) rfl) rfl (by decide +kernel))))
      fun _ => et_not (et_val (ed_all (bs := l.map fun _ => true) (ed_l (el_lcE (l := l) (enc := dNt) (r := fun _ => PyData.bool true) (ei_tup (ed_var rfl)) rfl (by omega) (by decide) (fun k hk => ⟨_, eg_name 4, ed_of (ep_call (dNt k) (ea_cons (ed_var rfl) ea_nil) (.inl ⟨_, rfl⟩)) fun _ h => h⟩) (by rw [List.map_map]; rfl)))))) (by simp)) (fun h => nomatch h) fun _ => ?_
    have hp : l.isPerm (List.range s.n) = decide (srtI (l.map fun (k : Nat) => (k : Int)) = rgI s.n) := by
      by_cases h : l.Perm (List.range s.n)
      · rw [decide_eq_true (srtI_range.mpr h), List.isPerm_iff.mpr h]
      · rw [decide_eq_false (fun e => h (srtI_range.mp e))]
        cases e : l.isPerm (List.range s.n) with
        | false => rfl
        | true => exact absurd (List.isPerm_iff.mp e) h
    refine r_ret (d := .bool (isMatB s t l)) (ed_and (a := l.isPerm (List.range s.n)) (ed_eq (ed_l (el_sortI (l := l.map fun (k : Nat) => (k : Int)) (ed_var rfl) (.inl (dO_int l)))) (ed_l (el_listRg (n := s.n) (ed_of (ep_call s (ea_cons (ed_var rfl) ea_nil) ws) fun _ h => h) (by omega))) (sh_ints _) ?_ ?_)
      fun hb => ed_eq (ed_of (ep_call (s, l) (ea_cons (ed_var rfl) (ea_cons (ed_var rfl) ea_nil)) ⟨ws, List.isPerm_iff.mp hb⟩) fun _ h => h) (ed_of (ep_call (dS t) (ea_cons (ed_var rfl) ea_nil) (tok_S wt)) fun _ h => h) ((sh_S _).ok (by decide)) ((sh_S _).ok (by decide)) (eqe_S _ _)) rfl
    · show SeqAt.shaped (.list (dRg s.n)) = true
      rw [dRg_int]
      exact sh_ints _
    · show PyData.eqv _ (.list (dRg s.n)) = _
      rw [dRg_int, eqe_lst eqe_int, hp]
end
end My
/-! the search finds an order exactly if there is one -/
namespace My
open PySem
theorem getD_at {α : Type} {l : List α} {i : Nat} {z : α} (h : i < l.length) : l.getD i z = l[i] := by
  rw [List.getD_eq_getElem?_getD, List.getElem?_eq_getElem h]
  rfl
theorem getD_map {α β : Type} {l : List α} {f : α → β} {i : Nat} {z : α} {y : β} (h : i < l.length) : (l.map f).getD i y = f (l.getD i z) := by
  rw [getD_at (by rw [List.length_map]; exact h), getD_at h, List.getElem_map]
theorem getD_left {α : Type} {l : List α} {x z : α} {i : Nat} (h : i < l.length) : (l ++ [x]).getD i z = l.getD i z := by
  rw [getD_at (by simp; omega), getD_at h, List.getElem_append_left h]
theorem getD_end {α : Type} {l : List α} {x z : α} : (l ++ [x]).getD l.length z = x := by
  rw [getD_at (by simp)]
  simp
theorem ext_getD {α : Type} {l m : List α} (z : α) (hl : l.length = m.length) (h : ∀ i, i < l.length → l.getD i z = m.getD i z) : l = m :=
  List.ext_getElem hl fun i h1 h2 => by
    have := h i h1
    rw [getD_at h1, getD_at h2] at this
    exact this
theorem nodup_le : ∀ {n : Nat} {p : List Nat}, p.Nodup → (∀ k ∈ p, k < n) → p.length ≤ n
  | 0, p, _, h => by
    cases p with
    | nil => simp
    | cons a r => exact absurd (h a (by simp)) (Nat.not_lt_zero _)
  | n + 1, p, hd, h => by
    by_cases hn : n ∈ p
    · have h1 := nodup_le (n := n) (hd.erase n) fun k hk => by
        have hk' := (hd.mem_erase_iff).mp hk
        have := h k hk'.2
        have := hk'.1
        omega
      rw [List.length_erase_of_mem hn] at h1
      omega
    · have h1 := nodup_le (n := n) hd fun k hk => by
        have h2 := h k hk
        have h3 : k ≠ n := fun e => hn (e ▸ hk)
        omega
      omega
theorem perm_of : ∀ {n : Nat} {p : List Nat}, p.Nodup → (∀ k ∈ p, k < n) → p.length = n → p.Perm (List.range n)
  | 0, p, _, _, hl => by
    have e : p = [] := List.eq_nil_of_length_eq_zero hl
    rw [e]
    exact .refl _
  | n + 1, p, hd, h, hl => by
    have hn : n ∈ p := Classical.byContradiction fun hn => by
      have h1 := nodup_le (n := n) hd fun k hk => by
        have h2 := h k hk
        have h3 : k ≠ n := fun e => hn (e ▸ hk)
        omega
      omega
    have h1 := perm_of (n := n) (hd.erase n) (fun k hk => by
      have hk' := (hd.mem_erase_iff).mp hk
      have := h k hk'.2
      have := hk'.1
      omega) (by rw [List.length_erase_of_mem hn]; omega)
    rw [List.range_succ]
    exact ((List.perm_cons_erase hn).trans (h1.cons n)).trans (List.perm_append_singleton n (List.range n)).symm
/-- o goes with t so far -/
structure Good (s t : Sheet) (o : List Nat) : Prop where
  nd : o.Nodup
  lt : ∀ k ∈ o, k < s.n
  mt : ∀ pr ∈ s.mats.zip t.mats, ∀ i j, i < o.length → j < o.length → at2 pr.1 (o.getD i 0) (o.getD j 0) = at2 pr.2 i j
  mw : ∀ i, i < o.length → wts s (o.getD i 0) = wts t i
theorem fitB_iff {s t : Sheet} {o : List Nat} {x : Nat} : fitB s t o x = true ↔ ∀ pr ∈ s.mats.zip t.mats, ∀ k, k < o.length + 1 → at2 pr.1 x ((o ++ [x]).getD k 0) = at2 pr.2 o.length k ∧ at2 pr.1 ((o ++ [x]).getD k 0) x = at2 pr.2 k o.length := by
  unfold fitB fitM fit1
  simp only [List.all_eq_true, Bool.and_eq_true, decide_eq_true_eq]
  constructor
  · intro h pr hpr k hk
    have hk' : k < (o ++ [x]).length := by simp; omega
    exact h pr hpr ((o ++ [x]).getD k 0, k) (by rw [List.mem_zipIdx_iff_getElem?]; show (o ++ [x])[k]? = some ((o ++ [x]).getD k 0); rw [getD_at hk', List.getElem?_eq_getElem hk'])
  · intro h pr hpr q hq
    obtain ⟨st, k⟩ := q
    rw [List.mem_zipIdx_iff_getElem?] at hq
    have hq' : (o ++ [x])[k]? = some st := hq
    obtain ⟨hk, e⟩ := List.getElem?_eq_some_iff.mp hq'
    have h1 := h pr hpr k (by simpa using hk)
    rw [getD_at hk, e] at h1
    exact h1
theorem Good.snoc {s t : Sheet} {o : List Nat} {x : Nat} (g : Good s t o) (h1 : x ∉ o) (h2 : x < s.n) (h3 : fitB s t o x = true) (h4 : wts s x = wts t o.length) : Good s t (o ++ [x]) := by
  have hf := fitB_iff.mp h3
  refine ⟨?_, fun k hk => ?_, fun pr hpr i j hi hj => ?_, fun i hi => ?_⟩
  · rw [List.nodup_append]
    refine ⟨g.nd, by simp, fun a ha b hb e => ?_⟩
    rw [List.mem_singleton.mp hb] at e
    exact h1 (e ▸ ha)
  · rcases List.mem_append.mp hk with hk | hk
    · exact g.lt k hk
    · rw [List.mem_singleton.mp hk]; exact h2
  · simp only [List.length_append, List.length_singleton] at hi hj
    by_cases ei : i = o.length
    · subst ei
      rw [getD_end]
      exact (hf pr hpr j hj).1
    · by_cases ej : j = o.length
      · subst ej
        rw [getD_end]
        exact (hf pr hpr i hi).2
      · rw [getD_left (by omega), getD_left (by omega)]
        exact g.mt pr hpr i j (by omega) (by omega)
  · simp only [List.length_append, List.length_singleton] at hi
    by_cases ei : i = o.length
    · subst ei
      rw [getD_end]
      exact h4
    · rw [getD_left (by omega)]
      exact g.mw i (by omega)
theorem mk_eqv {s t : Sheet} {a b : Nat} (h : PyData.eqv (dMk s a) (dMk t b) = true) : wts s a = wts t b := by
  unfold dMk at h
  simp only [PyData.eqv, PyData.eqvAll, Bool.and_eq_true] at h
  have h1 := h.1
  rw [eqe_R] at h1
  exact of_decide_eq_true h1
theorem choices_at {s t : Sheet} {i : Nat} (h : i < s.n) : (choicesM s t).getD i [] = (List.range s.n).filter fun k => PyData.eqv (dMk s k) (dMk t i) := by
  unfold choicesM
  rw [getD_map (z := 0) (by rw [List.length_range]; exact h), getD_at (by rw [List.length_range]; exact h), List.getElem_range]
theorem ofrom_some {s t : Sheet} : ∀ (r : Nat) (o p : List Nat), o.length + r = s.n → Good s t o → ofrom s t (choicesM s t) r o = some p → Good s t p ∧ p.length = s.n
  | 0, o, p, hl, g, h => by
    cases h
    exact ⟨g, by omega⟩
  | r + 1, o, p, hl, g, h => by
    unfold ofrom at h
    obtain ⟨x, hx, hF⟩ := List.exists_of_findSome?_eq_some h
    rw [choices_at (by omega)] at hx
    obtain ⟨h1, h2⟩ := List.mem_filter.mp hx
    by_cases ho : x ∈ o
    · rw [if_pos ho] at hF; cases hF
    · rw [if_neg ho] at hF
      by_cases hf : fitB s t o x = true
      · rw [if_pos hf] at hF
        exact ofrom_some r (o ++ [x]) p (by simp; omega) (g.snoc ho (List.mem_range.mp h1) hf (mk_eqv h2)) hF
      · rw [if_neg hf] at hF; cases hF
/-- sheets of one shape -/
structure Alike (s t : Sheet) : Prop where
  ss : Small s
  st : Small t
  nn : t.n = s.n
  ml : t.mats.length = s.mats.length
  tl : t.tells.length = s.tells.length
  sq : ∀ x ∈ s.tells, x.length = s.mats.length
  tq : ∀ x ∈ t.tells, x.length = t.mats.length
theorem row_eq {r r' : Rw} {p : List Nat} {n : Nat} (h1 : p.length = n) (h2 : r'.length = n) (h : ∀ i, i < n → r.getD (p.getD i 0) fz = r'.getD i fz) : renR r p = r' := by
  refine ext_getD fz (by unfold renR; rw [List.length_map]; omega) fun i hi => ?_
  unfold renR at hi ⊢
  rw [List.length_map] at hi
  rw [getD_map (z := 0) hi]
  exact h i (by omega)
theorem good_ren {s t : Sheet} (A : Alike s t) {p : List Nat} (g : Good s t p) (hl : p.length = s.n) : renS s p = t := by
  have ws := A.ss.wf
  have wt := A.st.wf
  have e1 : (s.mats.map fun m => renM m p) = t.mats := by
    refine ext_getD [] (by rw [List.length_map]; exact A.ml.symm) fun a ha => ?_
    rw [List.length_map] at ha
    rw [getD_map (z := []) ha, getD_at ha, getD_at (by rw [A.ml]; exact ha)]
    have hpr : (s.mats[a], t.mats[a]'(by rw [A.ml]; exact ha)) ∈ s.mats.zip t.mats := by
      rw [List.mem_iff_getElem]
      exact ⟨a, by rw [List.length_zip, A.ml]; omega, by rw [List.getElem_zip]⟩
    have hm := ws.sq _ (List.getElem_mem ha)
    have hg := wt.sq _ (List.getElem_mem (show a < t.mats.length by rw [A.ml]; exact ha))
    have gm := g.mt _ hpr
    simp only at gm
    generalize s.mats[a] = m at *
    generalize t.mats[a]'(by rw [A.ml]; exact ha) = m' at *
    refine ext_getD [] (by unfold renM; rw [List.length_map, hl, hg.1, A.nn]) fun i hi => ?_
    unfold renM at hi ⊢
    rw [List.length_map] at hi
    rw [getD_map (z := 0) hi]
    have hi' : i < m'.length := by rw [hg.1, A.nn]; omega
    refine row_eq (n := s.n) hl (by rw [hg.2 _ (getD_mem hi'), A.nn]) fun j hj => ?_
    exact gm i j hi (by omega)
  have e2 : (s.tells.map fun u => u.map fun r => renR r p) = t.tells := by
    have hw : ∀ i, i < s.n → (s.tells.map fun u => u.map fun r => r.getD (p.getD i 0) fz) = (t.tells.map fun u => u.map fun r => r.getD i fz) := fun i hi => by
      rw [List.eq_iff_flatten_eq]
      refine ⟨?_, ?_⟩
      · have := g.mw i (by omega)
        unfold wts at this
        rw [List.flatMap_def, List.flatMap_def] at this
        exact this
      · rw [List.map_map, List.map_map]
        refine ext_getD 0 (by rw [List.length_map, List.length_map]; exact A.tl.symm) fun a ha => ?_
        rw [List.length_map] at ha
        have ha' : a < t.tells.length := by rw [A.tl]; exact ha
        rw [getD_map (z := []) ha, getD_map (z := []) ha']
        simp only [Function.comp, List.length_map]
        rw [A.sq _ (getD_mem ha), A.tq _ (getD_mem ha'), A.ml]
    refine ext_getD [] (by rw [List.length_map]; exact A.tl.symm) fun a ha => ?_
    rw [List.length_map] at ha
    have ha' : a < t.tells.length := by rw [A.tl]; exact ha
    rw [getD_map (z := []) ha]
    have l1 := A.sq _ (getD_mem (z := []) ha)
    have l2 := A.tq _ (getD_mem (z := []) ha')
    have q2 := (wt.tq _ (getD_mem (z := []) ha')).2.2
    have hw2 : ∀ i, i < s.n → ((s.tells.getD a []).map fun r => r.getD (p.getD i 0) fz) = ((t.tells.getD a []).map fun r => r.getD i fz) := fun i hi => by
      have := congrArg (fun z => z.getD a []) (hw i hi)
      try simp only at this
      rw [getD_map (z := []) ha, getD_map (z := []) ha'] at this
      exact this
    generalize s.tells.getD a [] = u at *
    generalize t.tells.getD a [] = u' at *
    refine ext_getD [] (by rw [List.length_map]; rw [l1, l2, A.ml]) fun b hb => ?_
    rw [List.length_map] at hb
    have hb' : b < u'.length := by rw [l2, A.ml, ← l1]; exact hb
    rw [getD_map (z := []) hb]
    refine row_eq (n := s.n) hl (by rw [q2 _ (getD_mem hb'), A.nn]) fun i hi => ?_
    have := congrArg (fun z => z.getD b fz) (hw2 i hi)
    try simp only at this
    rw [getD_map (z := []) hb, getD_map (z := []) hb'] at this
    exact this
  unfold renS
  rw [e1, e2]
theorem match_some {s t : Sheet} (A : Alike s t) {p : List Nat} (h : matchM s t = some p) : IsP s.n p ∧ renS s p = t := by
  have g0 : Good s t [] := ⟨by simp, by simp, fun _ _ i _ hi => absurd hi (Nat.not_lt_zero _), fun i hi => absurd hi (Nat.not_lt_zero _)⟩
  obtain ⟨g, hl⟩ := ofrom_some s.n [] p (by simp) g0 h
  exact ⟨perm_of g.nd g.lt hl, good_ren A g hl⟩
/-! the other way -/
theorem ren_at {m : Mx} {p : List Nat} {n : Nat} (hp : p.length = n) {i j : Nat} (hi : i < n) (hj : j < n) : at2 (renM m p) i j = at2 m (p.getD i 0) (p.getD j 0) := by
  unfold at2 renM renR
  rw [getD_map (z := 0) (by omega), getD_map (z := 0) (by omega)]
theorem map_range {α : Type} (l : List α) (z : α) : ((List.range l.length).map fun k => l.getD k z) = l := by
  refine List.ext_getElem (by simp) fun i h1 h2 => ?_
  rw [List.getElem_map, List.getElem_range, getD_at h2]
theorem ren_perm {r : Rw} {p : List Nat} {n : Nat} (h : IsP n p) (hr : r.length = n) : (renR r p).Perm r := by
  have z := h.map fun k => r.getD k fz
  have e := map_range r fz
  rw [hr] at e
  rw [e] at z
  exact z
theorem ren_mk {s : Sheet} (hw : Wf s) {p : List Nat} (h : IsP s.n p) {k : Nat} (hk : k < s.n) : dMk (renS s p) k = dMk s (p.getD k 0) := by
  have hl := h.len
  have hpk : p.getD k 0 < s.n := h.lt _ (getD_mem (by omega))
  unfold dMk
  have e1 : wts (renS s p) k = wts s (p.getD k 0) := by
    unfold wts renS
    simp only [List.flatMap_map, List.map_map]
    congr 1
    funext u
    congr 1
    funext r
    simp only [Function.comp]
    unfold renR
    rw [getD_map (z := 0) (by omega)]
  have e2 : (renS s p).mats.map (dMk1 k) = s.mats.map (dMk1 (p.getD k 0)) := by
    unfold renS
    simp only [List.map_map]
    refine List.map_congr_left fun m hm => ?_
    have hq := hw.sq m hm
    simp only [Function.comp]
    unfold dMk1
    have f1 : at2 (renM m p) k k = at2 m (p.getD k 0) (p.getD k 0) := ren_at hl hk hk
    have f2 : srtF ((renM m p).getD k []) = srtF (m.getD (p.getD k 0) []) := by
      unfold renM
      rw [getD_map (z := 0) (by omega)]
      exact srtF_perm (ren_perm h (hq.2 _ (getD_mem (by rw [hq.1]; exact hpk))))
    have f3 : srtF ((renM m p).map fun r => r.getD k fz) = srtF (m.map fun r => r.getD (p.getD k 0) fz) := by
      have e : ((renM m p).map fun r => r.getD k fz) = p.map fun i => (m.getD i []).getD (p.getD k 0) fz := by
        unfold renM
        rw [List.map_map]
        refine List.map_congr_left fun i hi => ?_
        simp only [Function.comp]
        unfold renR
        rw [getD_map (z := 0) (by omega)]
      rw [e]
      refine srtF_perm ?_
      have z := h.map fun i => (m.getD i []).getD (p.getD k 0) fz
      have e3 : ((List.range s.n).map fun i => (m.getD i []).getD (p.getD k 0) fz) = m.map fun r => r.getD (p.getD k 0) fz := by
        have y := congrArg (List.map fun r : Rw => r.getD (p.getD k 0) fz) (map_range m [])
        rw [List.map_map, hq.1] at y
        exact y
      rw [e3] at z
      exact z
    rw [f1, f2, f3]
  rw [e1, e2]
theorem ofrom_none {s : Sheet} (hw : Wf s) {p : List Nat} (h : IsP s.n p) : ∀ (r k : Nat), k + r = s.n → ofrom s (renS s p) (choicesM s (renS s p)) r (p.take k) ≠ none
  | 0, k, _ => fun e => by cases e
  | r + 1, k, hk => fun e => by
    have hl := h.len
    unfold ofrom at e
    rw [List.findSome?_eq_none_iff] at e
    have htk : (p.take k).length = k := by rw [List.length_take]; omega
    rw [htk, choices_at (by omega)] at e
    have hx := e (p.getD k 0) (List.mem_filter.mpr ⟨List.mem_range.mpr (h.lt _ (getD_mem (by omega))), by rw [ren_mk hw h (by omega)]; exact SeqAt.eqv_refl _ (sh_Mk _ _).1⟩)
    have nd : p.Nodup := h.symm.nodup List.nodup_range
    have esnoc : p.take (k + 1) = p.take k ++ [p.getD k 0] := by
      rw [take_snoc (by omega), getD_at (by omega)]
    have hnot : p.getD k 0 ∉ p.take k := by
      have q : (p.take (k + 1)).Nodup := (List.take_sublist _ _).nodup nd
      rw [esnoc, List.nodup_append] at q
      exact fun m => q.2.2 _ m _ (by simp) rfl
    have hfit : fitB s (renS s p) (p.take k) (p.getD k 0) = true := by
      rw [fitB_iff]
      intro pr hpr j hj
      rw [htk] at hj ⊢
      have hpr2 : pr.2 = renM pr.1 p := by
        obtain ⟨a, ha, e⟩ := List.mem_iff_getElem.mp hpr
        rw [List.getElem_zip] at e
        rw [← e]
        unfold renS
        simp
      rw [← esnoc]
      have ej : (p.take (k + 1)).getD j 0 = p.getD j 0 := by
        rw [getD_at (by rw [List.length_take]; omega), getD_at (by omega), List.getElem_take]
      rw [ej, hpr2, ren_at hl (by omega) (by omega), ren_at hl (by omega) (by omega)]
      exact ⟨rfl, rfl⟩
    rw [if_neg hnot, if_pos hfit, ← esnoc] at hx
    exact ofrom_none hw h r (k + 1) (by omega) hx
theorem match_none {s t : Sheet} (hw : Wf s) (h : matchM s t = none) {p : List Nat} (hp : IsP s.n p) : renS s p ≠ t := fun e => by
  subst e
  exact ofrom_none hw hp s.n 0 (by omega) h
end My
namespace My
open PySem PySem.Spec PyProof.Rows L2
section
variable {P : Program} {w : World} {K : PySem.W.Frag} {mg : Str → Option Value} {base : Heap}
theorem mod_rng (x : Int) {m : Nat} (h : 1 ≤ m) : 0 ≤ x % (m : Int) ∧ x % (m : Int) < m := ⟨Int.emod_nonneg _ (by omega), Int.emod_lt_of_pos _ (by omega)⟩
def spTake (K : PySem.W.Frag) : Sp := spU K (fun m : Nat => [.int (m : Int)]) (fun m => 1 ≤ m ∧ m ≤ 1000) (fun _ => 1) (fun m d => ∃ r : Int, d = .int r ∧ 0 ≤ r ∧ r < m)
theorem ok__law_take (D : Df K mg "_law_take" s__law_take ["_law_urn", "_law_low_so"]) (B : Blt mg) : Cal P w K mg base 1 "_law_take" ["_law_urn", "_law_low_so"] (spTake K) := by
  refine cal_of D fun f fd F => fn_u F sc__law_take (fun a _ => rfl) (by decide) fun cdv A outer s H E hr => ⟨_, (pss_cons (ps_if (pt_cmpR op_gt (xe_ix K (pv 0) pe_int) pe_int (nomark _)) (pss_cons (ps_set (i := 5) sc__law_take.nd rfl (by first | exact Or.inl rfl | exact Or.inr rfl) (pe_op op_mod (xe_int B (pa_cons (xe_ix K (pv 0) pe_int) pa_nil)) (pv 1)))
        (pss_cons (ps_asg (pe_op op_fdiv (xe_ix K (pv 0) pe_int) (pv 1)) (pg_sub (pv 0) pe_int set_list))
        (pss_one (ps_ret (pv 5))))) pss_nil)
        (pss_cons (ps_asg (xe_add K (xe_ix K (pv 0) pe_int) pe_int) (pg_sub (pv 0) pe_int set_list))
        (pss_cons (ps_set (i := 2) sc__law_take.nd rfl (by first | exact Or.inl rfl | exact Or.inr rfl) (pe_op op_mod (xe_int B (pa_cons (pe_op op_mul (xe_add K (xe_ix K (pv 0) pe_int) (pe_op op_mul pe_int (xe_ix K (pv 0) pe_int))) (xe_add K pe_int (xe_ix K (pv 0) pe_int))) pa_nil)) pe_int))
        (pss_cons (ps_set (i := 3) sc__law_take.nd rfl (by first | exact Or.inl rfl | exact Or.inr rfl) (xe_add K (pe_op op_mod (xe_int B (pa_cons (pv 2) pa_nil)) pe_int) pe_int))
        (pss_cons (ps_set (i := 4) sc__law_take.nd rfl (by first | exact Or.inl rfl | exact Or.inr rfl) (pe_op op_mod (xe_int B (pa_cons (pe_op op_mul (xe_add K (xe_add K (pv 2) (xe_ix K (pv 0) pe_int)) (pe_op op_fdiv (xe_ix K (pv 0) pe_int) pe_int)) (pv 3)) pa_nil)) pe_int))
        (pss_one (ps_ret (pe_op op_mod (xe_int B (pa_cons (pe_op op_fdiv (pe_op op_mod (xe_int B (pa_cons (xe_add K (pe_op op_mul (pv 4) pe_int) (pv 2)) pa_nil)) pe_int) pe_int) pa_nil)) (pv 1))))))))), fun m n u ds hp ok hk => ?_⟩
  obtain ⟨a, b, c, rfl, b0, b1, c0, c1⟩ := ok
  obtain ⟨m0, m1⟩ := hp
  have mp : (0 : Int) < (m : Int) := by omega
  refine r_guard (b := decide (0 < a)) (et_cmp (ed_gt (ed_ixC (j := 0) rfl ed_int rfl) ed_int)) (fun _ => ?_) fun _ => ?_
  · refine r_then (r_set (d := .int (a % m)) (ed_mod (ed_int1 (ed_ixC (j := 0) rfl ed_int rfl)) (ed_var rfl) mp) rfl) ?_
    refine r_then (r_setC (j := 0) (d := .int (a / m)) (ed_fdiv (ed_ixC (j := 0) rfl ed_int rfl) (ed_var rfl) ⟨mp, by omega⟩) (by show 0 < 3; decide) rfl) ?_
    exact r_ret (ed_var rfl) ⟨⟨_, rfl, mod_rng a m0⟩, _, _, rfl, a / m, b, c, rfl, b0, b1, c0, by omega⟩
  · have h64 : ∀ {x y : Int}, 0 ≤ y → y < 2 ^ 60 → CMul x y := fun h1 h2 => .inr ⟨by omega, by omega⟩
    refine r_then (r_setC (j := 2) (d := .int (c + 1)) (ed_add (ed_ixC (j := 2) rfl ed_int rfl) ed_int) (by show 2 < 3; decide) rfl) ?_
    have cb : c + 1 ≤ 1000000 := by omega
    have e1 := Int.emod_nonneg ((b + 48271 * (c + 1)) * (39373 + (c + 1))) (show (2147483647 : Int) ≠ 0 by decide)
    have e2 := Int.emod_lt_of_pos ((b + 48271 * (c + 1)) * (39373 + (c + 1))) (show (0 : Int) < 2147483647 by decide)
    refine r_then (r_set (d := .int (((b + 48271 * (c + 1)) * (39373 + (c + 1))) % 2147483647)) (ed_mod (ed_int1 (ed_mul (ed_add (ed_ixC (j := 1) rfl ed_int rfl) (ed_mul ed_int (ed_ixC (j := 2) rfl ed_int rfl) (h64 (by omega) (by omega)))) (ed_add ed_int (ed_ixC (j := 2) rfl ed_int rfl)) (h64 (by omega) (by omega)))) ed_int (by decide)) rfl) ?_
    generalize ((b + 48271 * (c + 1)) * (39373 + (c + 1))) % 2147483647 = once at e1 e2 ⊢
    have e3 := Int.emod_nonneg once (show (40009 : Int) ≠ 0 by decide)
    have e4 := Int.emod_lt_of_pos once (show (0 : Int) < 40009 by decide)
    refine r_then (r_set (d := .int (once % 40009 + 7)) (ed_add (ed_mod (ed_int1 (ed_var rfl)) ed_int (by decide)) ed_int) rfl) ?_
    generalize once % 40009 = far at e3 e4 ⊢
    refine r_then (r_set (d := .int (((once + (c + 1) + b / 1000003) * (far + 7)) % 2147483629)) (ed_mod (ed_int1 (ed_mul (ed_add (ed_add (ed_var rfl) (ed_ixC (j := 2) rfl ed_int rfl)) (ed_fdiv (ed_ixC (j := 1) rfl ed_int rfl) ed_int ⟨by decide, by decide⟩)) (ed_var rfl) (h64 (by omega) (by omega)))) ed_int (by decide)) rfl) ?_
    generalize ((once + (c + 1) + b / 1000003) * (far + 7)) % 2147483629 = twice
    exact r_ret (d := .int (((twice * 48271 + once) % 2147483587 / 64) % m)) (ed_mod (ed_int1 (ed_fdiv (ed_mod (ed_int1 (ed_add (ed_mul (ed_var rfl) ed_int (h64 (by decide) (by decide))) (ed_var rfl))) ed_int (by decide)) ed_int ⟨by decide, by decide⟩)) (ed_var rfl) mp)
      ⟨⟨_, rfl, mod_rng _ m0⟩, _, _, rfl, a, b, c + 1, rfl, b0, b1, by omega, by omega⟩
def spOf (K : PySem.W.Frag) : Sp := spU K (fun ds : List PyData => [.list ds]) (fun ds => 1 ≤ ds.length ∧ ds.length ≤ 1000) (fun _ => 1) (fun ds d => d ∈ ds)
theorem ok__law_of (D : Df K mg "_law_of" s__law_of ["_law_urn", "_law_some_so"]) (B : Blt mg) (c__law_take : Cal P w K mg base 1 "_law_take" ["_law_urn", "_law_low_so"] (spTake K)) : Cal P w K mg base 2 "_law_of" ["_law_urn", "_law_some_so"] (spOf K) := by
  refine cal_of D fun f fd F => fn_u F sc__law_of (fun a _ => rfl) (by decide) fun cdv A outer s H E hr => ⟨_, (pss_one (ps_ret (xe_ix K (pv 1) (pe_cal c__law_take hr (by omega) rfl (pa_cons (pv 0) (pa_cons (xe_len K B (pa_cons (pv 1) pa_nil)) pa_nil)))))), fun es n u ds hp ok hk => ?_⟩
  exact r_retU (k := 1) (P := fun d => d ∈ es) (eu_ixL (es := es) (fun _ _ => ed_var rfl) (eu_call es.length (fun _ _ => ea_cons (ed_len (ed_var (d := .list es) rfl) (.inr rfl)) ea_nil) hp)) ok hk fun d es' hd ok' => ⟨hd, _, _, rfl, ok'⟩
end
end My
namespace My
open PySem PySem.Spec PyProof.Rows L2
theorem lift_all {α : Type} {enc : α → PyData} {Q : α → Prop} : ∀ es : List PyData, (∀ e ∈ es, ∃ f, e = enc f ∧ Q f) → ∃ l : List α, es = l.map enc ∧ ∀ f ∈ l, Q f
  | [], _ => ⟨[], rfl, fun _ h => nomatch h⟩
  | e :: es, h => by
    obtain ⟨l, h1, h2⟩ := lift_all es fun e he => h e (List.mem_cons_of_mem _ he)
    obtain ⟨f, h3, h4⟩ := h e List.mem_cons_self
    refine ⟨f :: l, by rw [List.map_cons, h1, h3], fun g hg => ?_⟩
    rcases List.mem_cons.mp hg with rfl | hg
    · exact h4
    · exact h2 g hg
theorem erase_map {α β : Type} (f : α → β) : ∀ (l : List α) (i : Nat), (l.map f).eraseIdx i = (l.eraseIdx i).map f
  | [], _ => rfl
  | _ :: _, 0 => rfl
  | a :: l, i + 1 => by simp [erase_map f l i]
theorem perm_erase {α : Type} : ∀ (l : List α) (i : Nat) (h : i < l.length), ([l[i]] ++ l.eraseIdx i).Perm l
  | a :: l, 0, _ => by simp
  | a :: l, i + 1, h => by
    have h' : i < l.length := by simpa using h
    have z := perm_erase l i h'
    simp only [List.singleton_append, List.getElem_cons_succ, List.eraseIdx_cons_succ] at z ⊢
    exact (List.Perm.swap a l[i] _).trans (List.Perm.cons a z)
def mnu : List Fr := [(0, 1), (1, 1), (1, 2), (-1, 1), (1, 3)]
def RowOk (n : Nat) (r : Rw) : Prop := r.length = n ∧ ∀ f ∈ r, f ∈ mnu
def MatOk (m n : Nat) (x : Mx) : Prop := x.length = m ∧ ∀ r ∈ x, RowOk n r
structure Few (p n : Nat) (s : Sheet) : Prop where
  ml : s.mats.length = p
  mm : ∀ m ∈ s.mats, MatOk n n m
  tl : s.tells.length ≤ 2
  tt : ∀ t ∈ s.tells, MatOk p n t
def IsMenu (d : PyData) : Prop := ∃ fl : List Fr, d = .list (fl.map dF) ∧ 1 ≤ fl.length ∧ fl.length ≤ 4 ∧ ∀ f ∈ fl, f ∈ mnu
theorem sh_nts (l : List Nat) : SeqAt.shaped (.list (l.map dNt)) = true := (sh_mapL sh_nt l).ok (by decide)
theorem dRg_len (n : Nat) : (dRg n).length = n := by unfold dRg; simp
theorem dRg_nt (n : Nat) : dRg n = (List.range n).map dNt := rfl
section
variable {P : Program} {w : World} {K : PySem.W.Frag} {mg : Str → Option Value} {base : Heap}
def spOrder (K : PySem.W.Frag) : Sp := spU K (fun n : Nat => [.int (n : Int)]) (fun n => n ≤ 100) (fun n => n) (fun n d => ∃ o, d = dO o ∧ IsP n o)
theorem ok__law_order (D : Df K mg "_law_order" s__law_order ["_law_urn", "_law_many_so"]) (B : Blt mg) (c__law_take : Cal P w K mg base 1 "_law_take" ["_law_urn", "_law_low_so"] (spTake K)) : Cal P w K mg base 2 "_law_order" ["_law_urn", "_law_many_so"] (spOrder K) := by
  refine cal_of D fun f fd F => fn_u F sc__law_order (fun a _ => rfl) (by decide) fun cdv A outer s H E hr => ⟨_, (pss_cons (ps_par (i := 2) (j := 3) (by rfl) sc__law_order.nd rfl rfl (by decide) rfl rfl (pa_cons (xe_listRg B (pv 1)) (pa_cons (pe_lst pa_nil) pa_nil)) (by rfl))
        (pss_cons (ps_while PassesOwn.never (xt_ne K hr (pv 2) (pe_lst pa_nil)) (pss_one (ps_expr (pe_bm PySem.F.plainAttrs_list PySem.F.slot_list_append PySem.F.type_list_append mt_append (pv 3) (pa_cons (pe_bm PySem.F.plainAttrs_list PySem.F.slot_list_pop PySem.F.type_list_pop mt_popAt (pv 2) (pa_cons (pe_cal c__law_take hr (by omega) rfl (pa_cons (pv 0) (pa_cons (xe_len K B (pa_cons (pv 2) pa_nil)) pa_nil))) pa_nil)) pa_nil)))))
        (pss_one (ps_ret (xe_tuple K B (pa_cons (pv 3) pa_nil)))))), fun N n u ds hp ok hk => ?_⟩
  refine r_then (r_parL (el_listRg (n := N) (ed_var rfl) (by omega)) (el_lst ea_nil (by decide)) rfl) ?_
  refine r_seq (M := fun z => ∃ (es : List PyData) (fs : List Nat), z = [SD.cel u es, .dat (.int (N : Int)), .lv [], .lv (fs.map dNt)] ∧ IsP N fs ∧ UrnOk (n + N) es) ?_ ?_
  · refine r_while (fun m z => ∃ (es : List PyData) (ls fs : List Nat), z = [SD.cel u es, .dat (.int (N : Int)), .lv (ls.map dNt), .lv (fs.map dNt)] ∧ ls.length = m ∧ (fs ++ ls).Perm (List.range N) ∧ UrnOk (n + fs.length) es) N ⟨ds, List.range N, [], rfl, by simp, by simp, ok⟩ ?_
    rintro m ρ1 ⟨es, ls, fs, rfl, hm, hpm, ok1⟩
    have hlen : fs.length + ls.length = N := by rw [← List.length_append, hpm.length_eq, List.length_range]
    refine ⟨!(ls.map dNt).isEmpty, et_cmp (ed_neE (i := 2) rfl (sh_nts ls)), fun hb => ?_, fun hb => ?_⟩
    · have h1 : 1 ≤ ls.length := by
        cases ls with
        | nil => cases hb
        | cons a b => simp
      have hl2 : (ls.map dNt).length = ls.length := List.length_map _
      refine r_popU (i := 2) (j := 1) (k := 1) (n := n + fs.length) (fs := fs.map dNt) (ls := ls.map dNt) (by decide) rfl rfl (eu_call (ls.map dNt).length (fun _ _ => ea_cons (ed_lenM (i := 2) rfl) ea_nil) ⟨by omega, by omega⟩) ok1 (by omega) (by rw [List.length_map]; omega) (by omega) fun r es2 hr ok2 => ?_
      have hr' : r < ls.length := by omega
      refine ⟨m - 1, by omega, es2, ls.eraseIdx r, fs ++ [ls[r]], ?_, ?_, ?_, ?_⟩
      · show [SD.cel u es2, .dat (.int (N : Int)), .lv ((ls.map dNt).eraseIdx r), .lv (fs.map dNt ++ [(ls.map dNt)[r]])] = _
        rw [erase_map, List.map_append, List.getElem_map]
        rfl
      · rw [List.length_eraseIdx_of_lt hr']; omega
      · refine List.Perm.trans ?_ hpm
        rw [List.append_assoc]
        exact List.Perm.append_left fs (perm_erase ls r hr')
      · rw [List.length_append]
        exact ok2.mono (by simp; omega)
    · have h0 : ls = [] := by
        cases ls with
        | nil => rfl
        | cons a b => cases hb
      subst h0
      rw [List.append_nil] at hpm
      exact ⟨es, fs, rfl, hpm, ok1.mono (by simp at hlen; omega)⟩
  · rintro ρ1 ⟨es, fs, rfl, hf, ok1⟩
    refine r_freeze (i := 3) rfl ?_
    exact r_ret (d := dO fs) (ed_tuple (ed_var rfl) (.inr rfl)) ⟨⟨fs, rfl, hf⟩, es, _, rfl, ok1⟩
def spFew (K : PySem.W.Frag) : Sp := spU K (fun a : Nat × Nat => [.int (a.1 : Int), .int (a.2 : Int)]) (fun a => 1 ≤ a.1 ∧ a.1 ≤ 2 ∧ 1 ≤ a.2 ∧ a.2 ≤ 4) (fun _ => 100) (fun a d => ∃ s, d = dS s ∧ Few a.1 a.2 s)
theorem ok__law_few (D : Df K mg "_law_few" s__law_few ["_law_urn", "_law_parts_so", "_law_many_so"]) (B : Blt mg) (c__law_take : Cal P w K mg base 1 "_law_take" ["_law_urn", "_law_low_so"] (spTake K)) (c__law_of : Cal P w K mg base 2 "_law_of" ["_law_urn", "_law_some_so"] (spOf K)) :
    Cal P w K mg base 3 "_law_few" ["_law_urn", "_law_parts_so", "_law_many_so"] (spFew K) := by
  refine cal_of D fun f fd F => fn_u F sc__law_few (fun a _ => rfl) (by decide) fun cdv A outer s H E hr => ⟨_, (pss_cons (ps_set (i := 3) sc__law_few.nd rfl (by first | exact Or.inl rfl | exact Or.inr rfl) (pe_cal c__law_of hr (by omega) rfl (pa_cons (pv 0) (pa_cons (pe_lst (pa_cons (pe_lst (pa_cons (pe_tup (pa_cons pe_int (pa_cons pe_int pa_nil))) (pa_cons (pe_tup (pa_cons pe_int (pa_cons pe_int pa_nil))) pa_nil))) (pa_cons (pe_lst (pa_cons (pe_tup (pa_cons pe_int (pa_cons pe_int pa_nil))) (pa_cons (pe_tup (pa_cons pe_int (pa_cons pe_int pa_nil))) (pa_cons (pe_tup (pa_cons pe_int (pa_cons pe_int pa_nil))) (pa_cons (pe_tup (pa_cons (pe_un un_neg pe_int) (pa_cons pe_int pa_nil))) pa_nil))))) (pa_cons (pe_lst (pa_cons (pe_tup (pa_cons pe_int (pa_cons pe_int pa_nil))) pa_nil)) pa_nil)))) pa_nil))))
        (pss_cons (ps_set (i := 4) sc__law_few.nd rfl (by first | exact Or.inl rfl | exact Or.inr rfl) (pe_lst pa_nil))
        (pss_cons (ps_for PassesOwn.never rfl (xi_range B (pa_cons (pv 1) pa_nil)) (pg_name (i := 5) sc__law_few.nd rfl (by first | exact Or.inl rfl | exact Or.inr rfl)) (pss_one (ps_expr (pe_bm PySem.F.plainAttrs_list PySem.F.slot_list_append PySem.F.type_list_append mt_append (pv 4) (pa_cons (xe_tuple K B (pa_cons (pe_lc (own := [("_law_k", 9)]) rfl sc__law_few.nd (xi_range B (pa_cons (pv 2) pa_nil)) (blkOk_by (by rfl)) (fun _ _ _ _ _ => (pg_name (i := 9) sc__law_few.nd rfl (by first | exact Or.inl rfl | exact Or.inr rfl))) (fun _ _ _ _ _ => pts_nil) (fun _ _ _ _ _ => (xe_tuple K B (pa_cons (pe_lc (own := [("_law_j", 10)]) rfl sc__law_few.nd (xi_range B (pa_cons (pv 2) pa_nil)) (blkOk_by (by rfl)) (fun _ _ _ _ _ => (pg_name (i := 10) sc__law_few.nd rfl (by first | exact Or.inl rfl | exact Or.inr rfl))) (fun _ _ _ _ _ => pts_nil) (fun _ _ _ _ _ => (pe_cal c__law_of hr (by omega) rfl (pa_cons (pv 0) (pa_cons (pv 3) pa_nil))))) pa_nil)))) pa_nil)) pa_nil)))))
        (pss_cons (ps_set (i := 6) sc__law_few.nd rfl (by first | exact Or.inl rfl | exact Or.inr rfl) (pe_lst pa_nil))
        (pss_cons (ps_for PassesOwn.never rfl (xi_range B (pa_cons (pe_cal c__law_take hr (by omega) rfl (pa_cons (pv 0) (pa_cons pe_int pa_nil))) pa_nil)) (pg_name (i := 7) sc__law_few.nd rfl (by first | exact Or.inl rfl | exact Or.inr rfl)) (pss_cons (ps_setLc (i := 8) (own := [("_law_part_so", 5)]) rfl sc__law_few.nd rfl rfl (sw_true rfl rfl rfl (by rfl)) (xi_range B (pa_cons (pv 1) pa_nil)) (blkOk_by (by rfl)) (fun _ _ _ _ _ => (pg_name (i := 5) sc__law_few.nd rfl (by first | exact Or.inl rfl | exact Or.inr rfl))) (fun _ _ _ _ _ => pts_nil) (fun _ _ _ _ _ => (xe_tuple K B (pa_cons (pe_lc (own := [("_law_k", 9)]) rfl sc__law_few.nd (xi_range B (pa_cons (pv 2) pa_nil)) (blkOk_by (by rfl)) (fun _ _ _ _ _ => (pg_name (i := 9) sc__law_few.nd rfl (by first | exact Or.inl rfl | exact Or.inr rfl))) (fun _ _ _ _ _ => pts_nil) (fun _ _ _ _ _ => (pe_cal c__law_of hr (by omega) rfl (pa_cons (pv 0) (pa_cons (pv 3) pa_nil))))) pa_nil))))
        (pss_one (ps_expr (pe_bm PySem.F.plainAttrs_list PySem.F.slot_list_append PySem.F.type_list_append mt_append (pv 6) (pa_cons (xe_tuple K B (pa_cons (pv 8) pa_nil)) pa_nil))))))
        (pss_one (ps_ret (pe_tup (pa_cons (xe_tuple K B (pa_cons (pv 4) pa_nil)) (pa_cons (xe_tuple K B (pa_cons (pv 6) pa_nil)) pa_nil)))))))))), fun a n u ds hp ok hk => ?_⟩
  obtain ⟨p, N⟩ := a
  obtain ⟨p0, p1, N0, N1⟩ := hp
  simp only at p0 p1 N0 N1
  have fr : ∀ {ρ : Ro} {a b : Int}, EvD K (tTup (tCons (tC (.int a)) (tCons (tC (.int b)) tNil))) ρ (dF (a, b)) := ed_tup (ea_cons ed_int (ea_cons ed_int ea_nil)) (by show 2 ≤ 1000; decide)
  have frn : ∀ {ρ : Ro} {a b : Int}, EvD K (tTup (tCons (tUn (rU fun i => .int (-i)) (tC (.int a))) (tCons (tC (.int b)) tNil))) ρ (dF (-a, b)) := ed_tup (ea_cons (ed_neg ed_int) (ea_cons ed_int ea_nil)) (by show 2 ≤ 1000; decide)
  refine r_seq (M := fun z => ∃ md es, IsMenu md ∧ UrnOk (n + 1) es ∧ z = [SD.cel u es, .dat (.int (p : Int)), .dat (.int (N : Int)), .dat md, .no, .no, .no, .no, .no, .no, .no])
    (r_setU (i := 3) (k := 1) (eu_call [.list ([(0, 1), (1, 1)].map dF), .list ([(0, 1), (0, 1), (1, 2), (-1, 1)].map dF), .list ([(1, 3)].map dF)]
      (fun _ _ => ea_cons (ed_l (el_lst (ea_cons (ed_l (el_lst (ea_cons fr (ea_cons fr ea_nil)) (by decide))) (ea_cons (ed_l (el_lst (ea_cons fr (ea_cons fr (ea_cons fr (ea_cons frn ea_nil)))) (by decide))) (ea_cons (ed_l (el_lst (ea_cons fr ea_nil) (by decide))) ea_nil))) (by decide))) ea_nil) ⟨by decide, by decide⟩) ok (by omega) fun d es hd ok1 => ⟨d, es, ?_, ok1, rfl⟩) ?_
  · simp only [List.mem_cons, List.not_mem_nil, or_false] at hd
    rcases hd with rfl | rfl | rfl
    · exact ⟨_, rfl, by decide, by decide, by decide⟩
    · exact ⟨_, rfl, by decide, by decide, by decide⟩
    · exact ⟨_, rfl, by decide, by decide, by decide⟩
  rintro ρ1 ⟨md, es, ⟨fl, rfl, f1, f2, f3⟩, ok1, rfl⟩
  refine r_then (r_setL (i := 4) (el_lst ea_nil (by decide)) rfl) ?_
  have draw : ∀ {ρt : Ro}, ρt[2]? = some (.dat (.list (fl.map dF))) → EvU K (tCall (spOf K) [] E0 (tCons (tVar 0) (tCons (tVar 3) tNil))) ρt 1 fun d => ∃ f, d = dF f ∧ f ∈ mnu := fun h => eu_mono (eu_call (fl.map dF) (fun _ _ => ea_cons (ed_var h) ea_nil) ⟨by rw [List.length_map]; exact f1, by rw [List.length_map]; omega⟩) fun d hd => by
    obtain ⟨f, hf, rfl⟩ := List.mem_map.mp hd
    exact ⟨f, rfl, f3 f hf⟩
  have rowOf : ∀ es : List PyData, (es.length = (dRg N).length ∧ ∀ e ∈ es, ∃ f, e = dF f ∧ f ∈ mnu) → ∃ r, PyData.tuple es = dR r ∧ RowOk N r := fun es ⟨h1, h2⟩ => by
    obtain ⟨l, e, h3⟩ := lift_all es h2
    exact ⟨l, by rw [e]; rfl, by rw [e, List.length_map, dRg_len] at h1; exact h1, h3⟩
  have matOf : ∀ (m : Nat) (es : List PyData), (es.length = (dRg m).length ∧ ∀ e ∈ es, ∃ r, e = dR r ∧ RowOk N r) → ∃ r, PyData.tuple es = dM r ∧ MatOk m N r := fun m es ⟨h1, h2⟩ => by
    obtain ⟨l, e, h3⟩ := lift_all es h2
    exact ⟨l, by rw [e]; rfl, by rw [e, List.length_map, dRg_len] at h1; exact h1, h3⟩
  have hNN : N * N ≤ 16 := Nat.mul_le_mul N1 N1
  have hpN : p * N ≤ 8 := Nat.mul_le_mul p1 N1
  refine r_seq (M := fun z => ∃ (es : List PyData) (ms : List Mx) (s5 : SD), z = [SD.cel u es, .dat (.int (p : Int)), .dat (.int (N : Int)), .dat (.list (fl.map dF)), .lv (ms.map dM), s5, .no, .no, .no, .no, .no] ∧ ms.length = p ∧ (∀ m ∈ ms, MatOk N N m) ∧ UrnOk (n + 1 + 16 * p) es)
    (r_for (ei_range (n := p) (ed_var rfl) (by omega)) (fun i z => ∃ (es : List PyData) (ms : List Mx) (s5 : SD), z = [SD.cel u es, .dat (.int (p : Int)), .dat (.int (N : Int)), .dat (.list (fl.map dF)), .lv (ms.map dM), s5, .no, .no, .no, .no, .no] ∧ ms.length = i ∧ (∀ m ∈ ms, MatOk N N m) ∧ UrnOk (n + 1 + 16 * i) es)
      ⟨es, [], .no, rfl, rfl, (fun _ h => nomatch h), ok1⟩ (fun i d ρ1 hd iv => ?_) fun ρ1 iv => ?_) ?_
  · obtain ⟨es2, ms, s5, rfl, hm1, hm2, ok2⟩ := iv
    have hi := (List.getElem?_eq_some_iff.mp hd).1
    rw [dRg_len] at hi
    refine ⟨_, _, eg_name 5, r_appU (i := 3) (k := 16) (fs := ms.map dM) rfl (eu_cost (eu_mono (P2 := fun d => ∃ r, d = dM r ∧ MatOk N N r) (eu_tupleL (eul_lc (j := 8) (is := dRg N) (k := N) (P := fun d => ∃ r, d = dR r ∧ RowOk N r) (fun _ _ => ei_range (n := N) (ed_var rfl) (by omega)) (fun _ _ => rfl) (by decide) (by rw [dRg_len]; omega) fun d hd =>
      eu_cost (eu_mono (eu_tupleL (eul_lc (j := 9) (is := dRg N) (fun _ _ => ei_range (n := N) (ed_var rfl) (by omega)) (fun _ _ => rfl) (by decide) (by rw [dRg_len]; omega) fun d hd => draw rfl)) fun d ⟨es, e, h⟩ => by subst e; exact rowOf es h) (by rw [dRg_len]; omega)))
      (fun d ⟨es, e, h⟩ => by subst e; exact matOf N es h)) (by rw [dRg_len]; exact hNN)) ok2 (by omega) (by rw [List.length_map]; omega) fun d es3 hd3 ok3 => ?_⟩
    obtain ⟨m, rfl, hm⟩ := hd3
    refine ⟨es3, ms ++ [m], _, by rw [List.map_append]; rfl, by rw [List.length_append, hm1]; rfl, fun x hx => ?_, ok3.mono (by omega)⟩
    rcases List.mem_append.mp hx with hx | hx
    · exact hm2 x hx
    · rw [List.mem_singleton.mp hx]; exact hm
  · rw [dRg_len] at iv
    exact iv
  rintro ρ1 ⟨es2, ms, s5, rfl, hm1, hm2, ok2⟩
  refine r_then (r_setL (i := 6) (el_lst ea_nil (by decide)) rfl) ?_
  refine r_seq (M := fun z => ∃ (es : List PyData) (ts : List Mx) (s5 s7 s8 : SD), z = [SD.cel u es, .dat (.int (p : Int)), .dat (.int (N : Int)), .dat (.list (fl.map dF)), .lv (ms.map dM), s5, .lv (ts.map dM), s7, s8, .no, .no] ∧ ts.length ≤ 2 ∧ (∀ m ∈ ts, MatOk p N m) ∧ UrnOk (n + 100) es)
    (r_forU (k := 1) (n := n + 1 + 16 * p) (m := 3) (eu_call 3 (fun _ _ => ea_cons ed_int ea_nil) ⟨by decide, by decide⟩) (by decide) ok2 (by omega) (fun i z => ∃ (es : List PyData) (ts : List Mx) (s5 s7 s8 : SD), z = [SD.cel u es, .dat (.int (p : Int)), .dat (.int (N : Int)), .dat (.list (fl.map dF)), .lv (ms.map dM), s5, .lv (ts.map dM), s7, s8, .no, .no] ∧ ts.length = i ∧ (∀ m ∈ ts, MatOk p N m) ∧ UrnOk (n + 1 + 16 * p + 1 + 8 * i) es)
      (fun es ok3 => ⟨es, [], s5, .no, .no, rfl, rfl, (fun _ h => nomatch h), ok3⟩) (fun i ρ1 hi iv => ?_) fun i ρ1 hi iv => ?_) ?_
  · obtain ⟨es3, ts, t5, t7, t8, rfl, ht1, ht2, ok3⟩ := iv
    refine ⟨_, _, eg_name 7, ?_⟩
    refine r_seq (M := fun z => ∃ (es : List PyData) (t : Mx), MatOk p N t ∧ UrnOk (n + 1 + 16 * p + 1 + 8 * i + 8) es ∧ z = [SD.cel u es, .dat (.int (p : Int)), .dat (.int (N : Int)), .dat (.list (fl.map dF)), .lv (ms.map dM), t5, .lv (ts.map dM), .dat (.int (i : Int)), .dat (.list (t.map dR)), .no, .no])
      (r_setU (i := 8) (k := 8) (eu_cost (eu_mono (P2 := fun d => ∃ t, d = .list (t.map dR) ∧ MatOk p N t) (eu_l (eul_lc (j := 4) (is := dRg p) (k := N) (P := fun d => ∃ r, d = dR r ∧ RowOk N r) (fun _ _ => ei_range (n := p) (ed_var rfl) (by omega)) (fun _ _ => rfl) (by decide) (by rw [dRg_len]; omega) fun d hd =>
        eu_cost (eu_mono (eu_tupleL (eul_lc (j := 8) (is := dRg N) (fun _ _ => ei_range (n := N) (ed_var rfl) (by omega)) (fun _ _ => rfl) (by decide) (by rw [dRg_len]; omega) fun d hd => draw rfl)) fun d ⟨es, e, h⟩ => by subst e; exact rowOf es h) (by rw [dRg_len]; omega)))
        (fun d ⟨es, e, h1, h2⟩ => by
          obtain ⟨l, e2, h3⟩ := lift_all es h2
          exact ⟨l, by rw [e, e2], by rw [e2, List.length_map, dRg_len] at h1; exact h1, h3⟩)) (by rw [dRg_len]; exact hpN)) ok3 (by omega) fun d es4 hd4 ok4 => ?_) ?_
    · obtain ⟨t, rfl, ht⟩ := hd4
      exact ⟨es4, t, ht, ok4, rfl⟩
    rintro ρ1 ⟨es4, t, ht, ok4, rfl⟩
    refine r_app (i := 6) (d := dM t) rfl (ed_tuple (ed_var rfl) (.inr rfl)) (by rw [List.length_map]; omega) ⟨es4, ts ++ [t], t5, _, _, by rw [List.map_append]; rfl, by rw [List.length_append, ht1]; rfl, fun x hx => ?_, ok4.mono (by omega)⟩
    rcases List.mem_append.mp hx with hx | hx
    · exact ht2 x hx
    · rw [List.mem_singleton.mp hx]; exact ht
  · obtain ⟨es3, ts, t5, t7, t8, rfl, ht1, ht2, ok3⟩ := iv
    exact ⟨es3, ts, t5, t7, t8, rfl, by omega, ht2, ok3.mono (by omega)⟩
  rintro ρ1 ⟨es3, ts, t5, t7, t8, rfl, ht1, ht2, ok3⟩
  refine r_freeze (i := 4) rfl (r_freeze (i := 6) rfl ?_)
  exact r_ret (d := dS ⟨ms, ts⟩) (ed_tup (ds := [dMs ms, dMs ts]) (ea_cons (ed_tuple (ed_var rfl) (.inr rfl)) (ea_cons (ed_tuple (ed_var rfl) (.inr rfl)) ea_nil)) (by show 2 ≤ 1000; decide)) ⟨⟨⟨ms, ts⟩, rfl, hm1, hm2, ht1, ht2⟩, es3, _, rfl, ok3⟩
end
end My
namespace My
open PySem PySem.Spec PyProof.Rows L2
theorem cutD_take {ds : List PyData} {j : Nat} (h : j ≤ ds.length) : cutD ds none (some (j : Int)) = ds.take j := by
  unfold cutD
  rw [HT.sIx_none, HT.sIx_nat, Nat.min_eq_left h]
  simp
theorem cutD_drop {ds : List PyData} {j : Nat} (h : j ≤ ds.length) : cutD ds (some (j : Int)) none = ds.drop j := by
  unfold cutD
  rw [HT.sIx_none, HT.sIx_nat, Nat.min_eq_left h, List.take_of_length_le (by simp)]
section
variable {P : Program} {w : World} {K : PySem.W.Frag} {mg : Str → Option Value} {base : Heap}
def spLow (K : PySem.W.Frag) : Sp := spT K (fun a : Int × Int => [.int a.1, .int a.2]) (fun a => -1000000 < a.1 ∧ a.1 < 1000000 ∧ 0 < a.2 ∧ a.2 < 1000000) (fun _ d => ∃ f : Fr, d = dF f)
theorem ok__law_low (D : Df K mg "_law_low" s__law_low ["_law_high_so", "_law_low_so"]) (B : Blt mg) : Cal P w K mg base 1 "_law_low" ["_law_high_so", "_law_low_so"] (spLow K) := by
  refine cal_of D fun f fd F => fn_t F sc__law_low (fun a _ => rfl) (by decide) fun cdv A outer s H E hr => ⟨_, (pss_cons (ps_par (i := 2) (j := 3) (by rfl) sc__law_low.nd rfl rfl (by decide) rfl rfl (pa_cons (xe_abs B (pa_cons (pv 0) pa_nil)) (pa_cons (xe_abs B (pa_cons (pv 1) pa_nil)) pa_nil)) (by rfl))
        (pss_cons (ps_while PassesOwn.never (pt_cmpR op_gt (pv 3) pe_int (nomark _)) (pss_one (ps_par (i := 2) (j := 3) (by rfl) sc__law_low.nd rfl rfl (by decide) rfl rfl (pa_cons (pv 3) (pa_cons (pe_op op_mod (pv 2) (pv 3)) pa_nil)) (by rfl))))
        (pss_cons (ps_set (i := 2) sc__law_low.nd rfl (by first | exact Or.inl rfl | exact Or.inr rfl) (pe_ifExp (pt_cmpR op_gt (pv 1) pe_int (nomark _)) (pv 2) (pe_un un_neg (pv 2))))
        (pss_one (ps_ret (pe_tup (pa_cons (pe_op op_fdiv (pv 0) (pv 2)) (pa_cons (pe_op op_fdiv (pv 1) (pv 2)) pa_nil)))))))), fun a hp => ?_⟩
  obtain ⟨h, l⟩ := a
  obtain ⟨h1, h2, l1, l2⟩ := hp
  simp only at h1 h2 l1 l2
  refine r_then (r_par (ea_cons (ed_abs (ed_var rfl)) (ea_cons (ed_abs (ed_var rfl)) ea_nil)) rfl) ?_
  refine r_seq (M := fun z => ∃ a : Int, z = [SD.dat (.int h), .dat (.int l), .dat (.int a), .dat (.int 0)] ∧ 0 < a ∧ a < 1000000) ?_ ?_
  · refine r_while (fun m z => ∃ a b : Int, z = [SD.dat (.int h), .dat (.int l), .dat (.int a), .dat (.int b)] ∧ 0 ≤ a ∧ 0 ≤ b ∧ a < 1000000 ∧ b < 1000000 ∧ (0 < a ∨ 0 < b) ∧ b.toNat = m) l.toNat ⟨_, _, rfl, ?_, ?_, ?_, ?_, ?_, ?_⟩ ?_
    · split <;> omega
    · split <;> omega
    · split <;> omega
    · split <;> omega
    · exact .inr (by split <;> omega)
    · split <;> omega
    rintro m ρ1 ⟨a, b, rfl, a0, b0, a1, b1, hab, hm⟩
    refine ⟨decide (0 < b), et_cmp (ed_gt (ed_var rfl) ed_int), fun hb => ?_, fun hb => ?_⟩
    · have hb := of_decide_eq_true hb
      have e1 := Int.emod_nonneg a (show b ≠ 0 by omega)
      have e2 := Int.emod_lt_of_pos a hb
      exact r_par (c := .int b) (d := .int (a % b)) (ea_cons (ed_var rfl) (ea_cons (ed_mod (ed_var rfl) (ed_var rfl) hb) ea_nil)) ⟨(a % b).toNat, by omega, b, a % b, rfl, b0, e1, b1, by omega, .inl hb, rfl⟩
    · have hb := of_decide_eq_false hb
      have e : b = 0 := by omega
      subst e
      exact ⟨a, rfl, by omega, a1⟩
  rintro ρ1 ⟨a, rfl, a0, a1⟩
  refine r_then (r_set (d := .int a) (ed_if (b := decide (0 < l)) (et_cmp (ed_gt (ed_var rfl) ed_int)) (fun _ => ed_var rfl) fun e => absurd l1 (of_decide_eq_false e)) rfl) ?_
  exact r_ret (d := dF (h / a, l / a)) (ed_tup (ds := [.int (h / a), .int (l / a)]) (ea_cons (ed_fdiv (ed_var rfl) (ed_var rfl) ⟨a0, by omega⟩) (ea_cons (ed_fdiv (ed_var rfl) (ed_var rfl) ⟨a0, by omega⟩) ea_nil)) (by show 2 ≤ 1000; decide)) ⟨_, rfl⟩
theorem mnu_b : ∀ f ∈ mnu, -10 ≤ f.1 ∧ f.1 ≤ 10 ∧ 0 < f.2 ∧ f.2 ≤ 10 := by decide
def spAdd (K : PySem.W.Frag) : Sp := spT K (fun a : Fr × Fr => [dF a.1, dF a.2]) (fun a => a.1 ∈ mnu ∧ a.2 = (1, 1)) (fun _ d => ∃ f : Fr, d = dF f)
theorem ok__law_add (D : Df K mg "_law_add" s__law_add ["_law_one_so", "_law_two_so"]) (B : Blt mg) (c__law_low : Cal P w K mg base 1 "_law_low" ["_law_high_so", "_law_low_so"] (spLow K)) : Cal P w K mg base 2 "_law_add" ["_law_one_so", "_law_two_so"] (spAdd K) := by
  refine cal_of D fun f fd F => fn_t F sc__law_add (fun a _ => rfl) (by decide) fun cdv A outer s H E hr => ⟨_, (pss_one (ps_ret (pe_cal c__law_low hr (by omega) rfl (pa_cons (xe_add K (pe_op op_mul (xe_ix K (pv 0) pe_int) (xe_ix K (pv 1) pe_int)) (pe_op op_mul (xe_ix K (pv 1) pe_int) (xe_ix K (pv 0) pe_int))) (pa_cons (pe_op op_mul (xe_ix K (pv 0) pe_int) (xe_ix K (pv 1) pe_int)) pa_nil))))), fun a hp => ?_⟩
  obtain ⟨f, g⟩ := a
  obtain ⟨h1, h2⟩ := hp
  simp only at h1 h2
  subst h2
  obtain ⟨b1, b2, b3, b4⟩ := mnu_b f h1
  have hc : ∀ {x y : Int}, -10 ≤ y → y ≤ 10 → CMul x y := fun h1 h2 => .inr ⟨by omega, by omega⟩
  exact r_retP (ep_call (f.1 * 1 + 1 * f.2, f.2 * 1) (ea_cons (ed_add (ed_mul (ed_ix (j := 0) (ed_var rfl) ed_int rfl) (ed_ix (j := 1) (ed_var rfl) ed_int rfl) (hc (by decide) (by decide))) (ed_mul (ed_ix (j := 0) (ed_var rfl) ed_int rfl) (ed_ix (j := 1) (ed_var rfl) ed_int rfl) (hc (by omega) (by omega)))) (ea_cons (ed_mul (ed_ix (j := 1) (ed_var rfl) ed_int rfl) (ed_ix (j := 1) (ed_var rfl) ed_int rfl) (hc (by decide) (by decide))) ea_nil)) ⟨by show -1000000 < f.1 * 1 + 1 * f.2; omega, by show f.1 * 1 + 1 * f.2 < 1000000; omega, by show 0 < f.2 * 1; omega, by show f.2 * 1 < 1000000; omega⟩) fun d h => h
def Chg (s : Sheet) (n : Nat) (t : Sheet) : Prop := t.mats.length = s.mats.length ∧ (∀ m ∈ t.mats, m.length = n ∧ ∀ r ∈ m, r.length = n) ∧ t.tells = s.tells
def dLR (r : Rw) : PyData := .list (r.map dF)
def spChanged (K : PySem.W.Frag) : Sp := spU K (fun a : Sheet × Nat => [dS a.1, .int (a.2 : Int)]) (fun a => Few a.1.mats.length a.2 a.1 ∧ 1 ≤ a.1.mats.length ∧ a.1.mats.length ≤ 2 ∧ 1 ≤ a.2 ∧ a.2 ≤ 4) (fun _ => 2) (fun a d => ∃ t, d = dS t ∧ Chg a.1 a.2 t)
theorem ok__law_changed (D : Df K mg "_law_changed" s__law_changed ["_law_urn", "_law_sheet_so", "_law_many_so"]) (B : Blt mg) (c__law_take : Cal P w K mg base 1 "_law_take" ["_law_urn", "_law_low_so"] (spTake K)) (c__law_add : Cal P w K mg base 2 "_law_add" ["_law_one_so", "_law_two_so"] (spAdd K)) :
    Cal P w K mg base 3 "_law_changed" ["_law_urn", "_law_sheet_so", "_law_many_so"] (spChanged K) := by
  refine cal_of D fun f fd F => fn_u F sc__law_changed (fun a _ => rfl) (by decide) fun cdv A outer s H E hr => ⟨_, (pss_cons (ps_par (i := 3) (j := 4) (by rfl) sc__law_changed.nd rfl rfl (by decide) rfl rfl (pa_cons (pe_cal c__law_take hr (by omega) rfl (pa_cons (pv 0) (pa_cons (pv 2) pa_nil))) (pa_cons (pe_cal c__law_take hr (by omega) rfl (pa_cons (pv 0) (pa_cons (pv 2) pa_nil))) pa_nil)) (by rfl))
        (pss_cons (ps_setLc (i := 5) (own := [("_law_own", 6)]) rfl sc__law_changed.nd rfl rfl (sw_true rfl rfl rfl (by rfl)) (xi_seq K (xe_ix K (xe_ix K (pv 1) pe_int) pe_int)) (blkOk_by (by rfl)) (fun _ _ _ _ _ => (pg_name (i := 6) sc__law_changed.nd rfl (by first | exact Or.inl rfl | exact Or.inr rfl))) (fun _ _ _ _ _ => pts_nil) (fun _ _ _ _ _ => (xe_list K B (pa_cons (pv 6) pa_nil))))
        (pss_cons (ps_asg (pe_cal c__law_add hr (by omega) rfl (pa_cons (xe_ix K (xe_ix K (pv 5) (pv 3)) (pv 4)) (pa_cons (pe_tup (pa_cons pe_int (pa_cons pe_int pa_nil))) pa_nil))) (pg_sub (xe_ix K (pv 5) (pv 3)) (pv 4) set_list))
        (pss_one (ps_ret (pe_tup (pa_cons (xe_add K (pe_tup (pa_cons (xe_tuple K B (pa_cons (pe_lc (own := [("_law_own", 6)]) rfl sc__law_changed.nd (xi_seq K (pv 5)) (blkOk_by (by rfl)) (fun _ _ _ _ _ => (pg_name (i := 6) sc__law_changed.nd rfl (by first | exact Or.inl rfl | exact Or.inr rfl))) (fun _ _ _ _ _ => pts_nil) (fun _ _ _ _ _ => (xe_tuple K B (pa_cons (pv 6) pa_nil)))) pa_nil)) pa_nil)) (xe_sl K (xe_ix K (pv 1) pe_int) (po_some pe_int) po_none)) (pa_cons (xe_ix K (pv 1) pe_int) pa_nil)))))))), fun a n u ds hp ok hk => ?_⟩
  obtain ⟨s, N⟩ := a
  obtain ⟨fw, p0, p1, N0, N1⟩ := hp
  simp only at fw p0 p1 N0 N1
  obtain ⟨ms, ts⟩ := s
  cases ms with
  | nil => simp at p0
  | cons m ms =>
  have hm := fw.mm m List.mem_cons_self
  refine r_seq (M := fun z => ∃ (k j : Nat) (es : List PyData), k < N ∧ j < N ∧ UrnOk (n + 2) es ∧ z = [SD.cel u es, .dat (dS ⟨m :: ms, ts⟩), .dat (.int (N : Int)), .dat (.int (k : Int)), .dat (.int (j : Int)), .no, .no])
    (r_parU (i := 3) (j := 4) (k1 := 1) (k2 := 1) (eu_call N (fun _ _ => ea_cons (ed_var rfl) ea_nil) ⟨N0, by omega⟩) (eu_call N (fun _ _ => ea_cons (ed_var rfl) ea_nil) ⟨N0, by omega⟩) ok (by omega) fun d1 d2 es h1 h2 ok1 => ?_) ?_
  · obtain ⟨r1, rfl, a1, a2⟩ := h1
    obtain ⟨r2, rfl, b1, b2⟩ := h2
    refine ⟨r1.toNat, r2.toNat, es, by omega, by omega, ok1, ?_⟩
    have e1 : ((r1.toNat : Nat) : Int) = r1 := by omega
    have e2 : ((r2.toNat : Nat) : Int) = r2 := by omega
    rw [e1, e2]
    rfl
  rintro ρ1 ⟨k, j, es, hk1, hj1, ok1, rfl⟩
  have hkm : k < m.length := by rw [hm.1]; exact hk1
  have hrow := hm.2 m[k] (List.getElem_mem hkm)
  have hjm : j < m[k].length := by rw [hrow.1]; exact hj1
  refine r_rows (i5 := 5) (i3 := 3) (i4 := 4) (rows := m.map fun r => r.map dF) (row := m[k].map dF) (k := k) (j := j) (d0 := dF m[k][j]) (c := dF (1, 1)) (er_lc (is := m.map dR) (ei_tup (ed_ix (j := 0) (ed_ix (j := 0) (ed_var rfl) ed_int rfl) ed_int rfl)) (by rw [List.map_map]; rfl) rfl (by decide) (by rw [List.length_map, hm.1]; omega) (by show 6 < 7; decide)) (by decide) (by decide) (by show 5 < 7; decide) rfl rfl
    (by rw [List.getElem?_map, List.getElem?_eq_getElem hkm]; rfl) (by rw [List.getElem?_map, List.getElem?_eq_getElem hjm]; rfl) (ed_tup (ds := [.int 1, .int 1]) (ea_cons ed_int (ea_cons ed_int ea_nil)) (by show 2 ≤ 1000; decide)) (m[k][j], (1, 1)) rfl ⟨hrow.2 _ (List.getElem_mem hjm), rfl⟩ fun e he => ?_
  obtain ⟨f, rfl⟩ := he
  have e1 : ((m.map fun r => r.map dF).set k ((m[k].map dF).set j (dF f))).map PyData.list = (m.set k (m[k].set j f)).map dLR := by
    rw [← List.map_set, ← List.map_set (f := fun r : Rw => r.map dF), List.map_map]
    rfl
  rw [e1]
  have hm' : (m.set k (m[k].set j f)).length = N := by rw [List.length_set]; exact hm.1
  have hr' : ∀ r ∈ m.set k (m[k].set j f), r.length = N := fun r hr => by
    rcases List.mem_or_eq_of_mem_set hr with hr | rfl
    · exact (hm.2 r hr).1
    · rw [List.length_set]; exact hrow.1
  generalize m.set k (m[k].set j f) = m' at hm' hr' ⊢
  refine r_ret (d := dS ⟨m' :: ms, ts⟩) (ed_tup (ds := [dMs (m' :: ms), dMs ts]) (ea_cons (ed_is (ed_addT (ds := [dM m']) (es := ms.map dM) (ed_tup (ea_cons (ed_tupleL (el_lcE (l := m') (enc := dLR) (r := dR) (ei_list (ed_var rfl)) rfl (by omega) (by decide) (fun r hr => ⟨_, eg_name 6, ed_tuple (ed_var rfl) (.inr rfl)⟩) rfl)) ea_nil) (by show 1 ≤ 1000; decide)) (ed_is (ed_slT (lo := some 1) (hi := none) (ed_ix (j := 0) (ed_var rfl) ed_int rfl) (eo_some ed_int) eo_none) ?_) ?_) rfl) (ea_cons (ed_ix (j := 1) (ed_var rfl) ed_int rfl) ea_nil)) (by show 2 ≤ 1000; decide)) ⟨⟨⟨m' :: ms, ts⟩, rfl, rfl, fun x hx => ?_, rfl⟩, es, _, rfl, ok1⟩
  · show PyData.tuple (cutD ((m :: ms).map dM) (some ((1 : Nat) : Int)) none) = _
    rw [cutD_drop (by simp)]
    rfl
  · rw [List.length_map]
    show 1 + ms.length ≤ 1000
    have : (m :: ms).length ≤ 2 := p1
    rw [List.length_cons] at this
    omega
  · rcases List.mem_cons.mp hx with rfl | hx
    · exact ⟨hm', hr'⟩
    · have q := fw.mm x (List.mem_cons_of_mem _ hx)
      exact ⟨q.1, fun r hr => (q.2 r hr).1⟩
end
end My
namespace My
open PySem PySem.Spec PyProof.Rows L2
/-! all orders -/
def insAll (k : Nat) (o : List Nat) : List (List Nat) := (List.range (k + 1)).map fun j => o.take j ++ [k] ++ o.drop j
def ordM : Nat → List (List Nat)
  | 0 => [[]]
  | k + 1 => (ordM k).flatMap (insAll k)
theorem ordM_mem : ∀ (n : Nat) (o : List Nat), o ∈ ordM n ↔ IsP n o
  | 0, o => by
    constructor
    · intro h
      rw [List.mem_singleton.mp h]
      exact .nil
    · intro h
      rw [List.Perm.eq_nil (h : o.Perm [])]
      exact List.mem_singleton.mpr rfl
  | k + 1, o => by
    have er : List.range (k + 1) = List.range k ++ [k] := List.range_succ
    constructor
    · intro h
      obtain ⟨p, hp, ho⟩ := List.mem_flatMap.mp h
      obtain ⟨j, hj, rfl⟩ := List.mem_map.mp ho
      have q := (ordM_mem k p).mp hp
      show List.Perm _ _
      rw [er]
      refine List.Perm.trans ?_ (List.Perm.append_right [k] q)
      have e : p = p.take j ++ p.drop j := (List.take_append_drop j p).symm
      conv => rhs; rw [e]
      rw [List.append_assoc, List.append_assoc]
      exact List.Perm.append_left _ List.perm_append_comm
    · intro h
      have hk : k ∈ o := h.mem_iff.mpr (List.mem_range.mpr (Nat.lt_succ_self k))
      obtain ⟨a, b, rfl⟩ := List.append_of_mem hk
      have q : IsP k (a ++ b) := by
        have h1 : (a ++ k :: b).Perm (k :: (a ++ b)) := List.perm_middle
        have h2 : (List.range (k + 1)).Perm (k :: List.range k) := by
          rw [er]
          exact List.perm_append_comm
        exact (h1.symm.trans (h.trans h2)).cons_inv
      refine List.mem_flatMap.mpr ⟨a ++ b, (ordM_mem k _).mpr q, List.mem_map.mpr ⟨a.length, ?_, ?_⟩⟩
      · have hl := q.len
        rw [List.length_append] at hl
        exact List.mem_range.mpr (by omega)
      · simp
theorem insAll_len (k : Nat) (o : List Nat) : (insAll k o).length = k + 1 := by unfold insAll; simp
theorem flat_len (k : Nat) : ∀ l : List (List Nat), (l.flatMap (insAll k)).length = l.length * (k + 1)
  | [] => by simp
  | o :: l => by
    rw [List.flatMap_cons, List.length_append, flat_len k l, insAll_len, List.length_cons, Nat.succ_mul]
    omega
theorem ordM_len : (ordM 0).length = 1 ∧ (ordM 1).length = 1 ∧ (ordM 2).length = 2 ∧ (ordM 3).length = 6 ∧ (ordM 4).length = 24 := by decide
theorem ordM_le {k : Nat} (h : k ≤ 4) : (ordM k).length ≤ 24 := by
  obtain ⟨a, b, c, d, e⟩ := ordM_len
  match k, h with
  | 0, _ => omega
  | 1, _ => omega
  | 2, _ => omega
  | 3, _ => omega
  | 4, _ => omega
section
variable {P : Program} {w : World} {K : PySem.W.Frag} {mg : Str → Option Value} {base : Heap}
def dOs (l : List (List Nat)) : PyData := .list (l.map dO)
def spOrders (K : PySem.W.Frag) : Sp := spT K (fun n : Nat => [.int (n : Int)]) (fun n => n ≤ 4) (fun n d => d = dOs (ordM n))
theorem ok__law_orders (D : Df K mg "_law_orders" s__law_orders ["_law_many_so"]) (B : Blt mg) : Cal P w K mg base 1 "_law_orders" ["_law_many_so"] (spOrders K) := by
  refine cal_of D fun f fd F => fn_t F sc__law_orders (fun a _ => rfl) (by decide) fun cdv A outer s H E hr => ⟨_, (pss_cons (ps_set (i := 1) sc__law_orders.nd rfl (by first | exact Or.inl rfl | exact Or.inr rfl) (pe_lst (pa_cons (pe_tup pa_nil) pa_nil)))
        (pss_cons (ps_for PassesOwn.never rfl (xi_range B (pa_cons (pv 0) pa_nil)) (pg_name (i := 2) sc__law_orders.nd rfl (by first | exact Or.inl rfl | exact Or.inr rfl)) (pss_cons (ps_set (i := 3) sc__law_orders.nd rfl (by first | exact Or.inl rfl | exact Or.inr rfl) (pe_lst pa_nil))
        (pss_cons (ps_for PassesOwn.never rfl (xi_seq K (pv 1)) (pg_name (i := 4) sc__law_orders.nd rfl (by first | exact Or.inl rfl | exact Or.inr rfl)) (pss_one (ps_set (i := 3) sc__law_orders.nd rfl (by first | exact Or.inl rfl | exact Or.inr rfl) (xe_add K (pv 3) (pe_lc (own := [("_law_j", 5)]) rfl sc__law_orders.nd (xi_range B (pa_cons (xe_add K (pv 2) pe_int) pa_nil)) (blkOk_by (by rfl)) (fun _ _ _ _ _ => (pg_name (i := 5) sc__law_orders.nd rfl (by first | exact Or.inl rfl | exact Or.inr rfl))) (fun _ _ _ _ _ => pts_nil) (fun _ _ _ _ _ => (xe_add K (xe_add K (xe_sl K (pv 4) po_none (po_some (pv 5))) (pe_tup (pa_cons (pv 2) pa_nil))) (xe_sl K (pv 4) (po_some (pv 5)) po_none))))))))
        (pss_one (ps_set (i := 1) sc__law_orders.nd rfl (by first | exact Or.inl rfl | exact Or.inr rfl) (pv 3))))))
        (pss_one (ps_ret (pv 1))))), fun N hN => ?_⟩
  refine r_then (r_set (d := dOs [[]]) (ed_l (el_lst (ea_cons (ed_tup (ds := []) ea_nil (by decide)) ea_nil) (by decide))) rfl) ?_
  refine r_seq (M := fun z => ∃ s2 s3 s4, z = [SD.dat (.int (N : Int)), .dat (dOs (ordM N)), s2, s3, s4, .no])
    (r_for (ei_range (n := N) (ed_var rfl) (by omega)) (fun i z => ∃ s2 s3 s4, z = [SD.dat (.int (N : Int)), .dat (dOs (ordM i)), s2, s3, s4, .no]) ⟨.no, .no, .no, rfl⟩ (fun i d ρ1 hd iv => ?_) fun ρ1 iv => ?_) ?_
  · obtain ⟨s2, s3, s4, rfl⟩ := iv
    have hi := (List.getElem?_eq_some_iff.mp hd).1
    rw [dRg_len] at hi
    have hd' : d = .int (i : Int) := by
      unfold dRg at hd
      rw [List.getElem?_map, List.getElem?_range hi] at hd
      exact (Option.some.inj hd).symm
    subst hd'
    have hle := ordM_le (k := i) (by omega)
    refine ⟨_, _, eg_name 2, ?_⟩
    refine r_then (r_set (d := dOs []) (ed_l (el_lst ea_nil (by decide))) rfl) ?_
    refine r_seq (M := fun z => ∃ s4, z = [SD.dat (.int (N : Int)), .dat (dOs (ordM i)), .dat (.int (i : Int)), .dat (dOs (ordM (i + 1))), s4, .no])
      (r_for (ei_list (ds := (ordM i).map dO) (ed_var rfl)) (fun m z => ∃ s4, z = [SD.dat (.int (N : Int)), .dat (dOs (ordM i)), .dat (.int (i : Int)), .dat (dOs (((ordM i).take m).flatMap (insAll i))), s4, .no]) ⟨s4, rfl⟩ (fun m d ρ2 hd2 iv => ?_) fun ρ2 iv => ?_) ?_
    · obtain ⟨t4, rfl⟩ := iv
      rw [List.getElem?_map] at hd2
      obtain ⟨o, ho, rfl⟩ := Option.map_eq_some_iff.mp hd2
      have hm := (List.getElem?_eq_some_iff.mp ho).1
      have hol : o.length = i := ((ordM_mem i o).mp (List.mem_of_getElem? ho)).len
      refine ⟨_, _, eg_name 4, ?_⟩
      have hmul : ((ordM i).take m).length * (i + 1) ≤ 24 * 5 := Nat.mul_le_mul (by rw [List.length_take]; omega) (by omega)
      refine r_set (d := dOs (((ordM i).take (m + 1)).flatMap (insAll i))) (ed_is (ed_l (el_add (ds := (((ordM i).take m).flatMap (insAll i)).map dO) (es := (insAll i o).map dO) (ed_var rfl) (ed_l (el_lcE (l := List.range (i + 1)) (enc := dNt) (r := fun j => dO (o.take j ++ [i] ++ o.drop j)) (ei_range (n := i + 1) (ed_is (ed_add (m := (i : Int)) (n := 1) (ed_var rfl) ed_int) rfl) (by omega)) rfl (by rw [List.length_range]; omega) (by decide) (fun j hj => ⟨_, eg_name 5, ?_⟩) ?_)) ?_)) ?_) ⟨_, rfl⟩
      · have hj' : j ≤ (o.map dNt).length := by
          have := List.mem_range.mp hj
          rw [List.length_map]
          omega
        refine ed_is (ed_addT (ds := (o.map dNt).take j ++ [dNt i]) (es := (o.map dNt).drop j) (ed_addT (ds := (o.map dNt).take j) (es := [dNt i]) (ed_is (ed_slT (ds := o.map dNt) (lo := none) (hi := some (j : Int)) (ed_var rfl) eo_none (eo_some (ed_var rfl))) (by rw [cutD_take hj'])) (ed_tup (ea_cons (ed_var rfl) ea_nil) (by show 1 ≤ 1000; decide)) ?_) (ed_is (ed_slT (ds := o.map dNt) (lo := some (j : Int)) (hi := none) (ed_var rfl) (eo_some (ed_var rfl)) eo_none) (by rw [cutD_drop hj'])) ?_) ?_
        · simp; omega
        · simp; omega
        · show _ = PyData.tuple _
          rw [List.map_append, List.map_append, List.map_take, List.map_drop]
          rfl
      · show _ = List.map _ _
        unfold insAll
        rw [List.map_map]
        rfl
      · rw [List.length_map, List.length_map, flat_len, insAll_len]
        omega
      · rw [List.take_add_one, ho]
        show _ = PyData.list _
        simp
    · rw [List.length_map] at iv
      obtain ⟨t4, rfl⟩ := iv
      exact ⟨t4, by rw [List.take_of_length_le (Nat.le_refl _)]; rfl⟩
    rintro ρ2 ⟨t4, rfl⟩
    exact r_set (d := dOs (ordM (i + 1))) (ed_var rfl) ⟨_, _, _, rfl⟩
  · rw [dRg_len] at iv
    exact iv
  rintro ρ1 ⟨s2, s3, s4, rfl⟩
  exact r_ret (ed_var rfl) rfl
end
end My
namespace My
open PySem PySem.Spec PyProof.Rows L2
def SOk : Nat → PyData → Prop
  | _ + 1, .int _ => True
  | _ + 1, .bool _ => True
  | _ + 1, .none => True
  | n + 1, .tuple ds => ds.length ≤ 1000 ∧ ∀ d ∈ ds, SOk n d
  | n + 1, .list ds => ds.length ≤ 1000 ∧ ∀ d ∈ ds, SOk n d
  | _, _ => False
theorem zipD_same (ds : List PyData) : zipD ds ds = ds.map fun d => PyData.tuple [d, d] := by
  unfold zipD
  induction ds with
  | nil => rfl
  | cons a b ih => rw [List.zipWith_cons_cons, ih]; rfl
section
variable {P : Program} {w : World} {K : PySem.W.Frag} {mg : Str → Option Value} {base : Heap}
def spSame (K : PySem.W.Frag) (n : Nat) : Sp := spT K (fun d : PyData => [d, d]) (SOk n) (fun _ d => d = .bool true)
theorem eqv_bool (a : Bool) : PyData.eqv (.bool a) (.bool a) = true := by cases a <;> simp [PyData.eqv]
theorem eqv_int (a : Int) : PyData.eqv (.int a) (.int a) = true := by simp [PyData.eqv]
theorem all_true : ∀ l : List PyData, (l.map fun _ => true).all id = true
  | [] => rfl
  | a :: l => by simp
theorem ok__law_same (D : Df K mg "_law_same" s__law_same ["_law_near", "_law_goal"]) (B : Blt mg) : ∀ n : Nat, Cal P w K mg base n "_law_same" ["_law_near", "_law_goal"] (spSame K n)
  | 0 => cal_never D fun a h => by cases a <;> exact h
  | n + 1 => by
    have c__law_same := ok__law_same D B n
    refine cal_of D fun f fd F => fn_t F sc__law_same (fun a _ => rfl) (by decide) fun cdv A outer s H E hr => ⟨_, (pss_cons (ps_if (pt_val (xe_isiT K B (pa_cons (pv 1) (pa_cons (pe_tup (pa_cons (xe_ty (x := "list") (T := "list") (by decide +kernel) B.b_list) (pa_cons (xe_ty (x := "tuple") (T := "tuple") (by decide +kernel) B.b_tuple) pa_nil))) pa_nil)))) (pss_cons (ps_if (PW.pt (pw_or (xt_ne K hr (xe_isi K B (pa_cons (pv 0) (pa_cons (xe_ty (x := "list") (T := "list") (by decide +kernel) B.b_list) pa_nil))) (xe_isi K B (pa_cons (pv 1) (pa_cons (xe_ty (x := "list") (T := "list") (by decide +kernel) B.b_list) pa_nil)))) (pw_or1 (xt_ne K hr (xe_isi K B (pa_cons (pv 0) (pa_cons (xe_ty (x := "tuple") (T := "tuple") (by decide +kernel) B.b_tuple) pa_nil))) (xe_isi K B (pa_cons (pv 1) (pa_cons (xe_ty (x := "tuple") (T := "tuple") (by decide +kernel) B.b_tuple) pa_nil))))))) (pss_one (ps_ret pe_bl)) pss_nil)
        (pss_one (ps_ret (pe_and (xe_eq K hr (xe_len K B (pa_cons (pv 0) pa_nil)) (xe_len K B (pa_cons (pv 1) pa_nil))) (pe_one (xe_all K B (pa_cons (pe_lc (own := [("_law_mine_so", 2), ("_law_own", 3)]) rfl sc__law_same.nd (xi_zip K B (pa_cons (pv 0) (pa_cons (pv 1) pa_nil))) (blkOk_by (by rfl)) (fun _ _ _ _ _ => (xg_tup K (n := 2) (pgs_cons (pg_name (i := 2) sc__law_same.nd rfl (by first | exact Or.inl rfl | exact Or.inr rfl)) (pgs_cons (pg_name (i := 3) sc__law_same.nd rfl (by first | exact Or.inl rfl | exact Or.inr rfl)) pgs_nil)))) (fun _ _ _ _ _ => pts_nil) (fun _ _ _ _ _ => (pe_cal c__law_same hr (by omega) rfl (pa_cons (pv 2) (pa_cons (pv 3) pa_nil))))) pa_nil))))))) pss_nil)
        (pss_cons (ps_if (PW.pt (pw_or (pt_cmpR op_isN' (pv 1) pe_non (nomark _)) (pw_or1 (pt_val (xe_isiT K B (pa_cons (pv 1) (pa_cons (pe_tup (pa_cons (xe_ty (x := "bool") (T := "bool") (by decide +kernel) B.b_bool) (pa_cons (xe_ty (x := "str") (T := "str") (by decide +kernel) B.b_str) pa_nil))) pa_nil))))))) (pss_one (ps_ret (pe_and (xe_eq K hr (pv 0) (pv 1)) (pe_and (xe_eq K hr (xe_isi K B (pa_cons (pv 0) (pa_cons (xe_ty (x := "bool") (T := "bool") (by decide +kernel) B.b_bool) pa_nil))) (xe_isi K B (pa_cons (pv 1) (pa_cons (xe_ty (x := "bool") (T := "bool") (by decide +kernel) B.b_bool) pa_nil)))) (pe_one (xe_eq K hr (pe_cmpR op_isN' (pv 0) pe_non (nomark _)) (pe_cmpR op_isN' (pv 1) pe_non (nomark _)))))))) pss_nil)
        (pss_one (ps_ret (pe_and (xe_isi K B (pa_cons (pv 0) (pa_cons (xe_ty (x := "int") (T := "int") (by decide +kernel) B.b_int) pa_nil))) (pe_and (pe_not (xe_isi K B (pa_cons (pv 0) (pa_cons (xe_ty (x := "bool") (T := "bool") (by decide +kernel) B.b_bool) pa_nil)))) (pe_one (xe_eq K hr (pv 0) (pv 1))))))))), fun a hp => ?_⟩
    have hsb : ∀ b, SeqAt.shaped (.bool b) = true := fun b => (sh_bl b).ok (by decide)
    cases a with
    | int i =>
      refine r_guard (b := false) (et_val (ed_isiT (b := false) (b2 := false) (s := "int") (ed_var rfl) rfl (by decide +kernel) (by decide +kernel))) (fun h => nomatch h) fun _ => ?_
      refine r_guard (b := false) (et_or (a := false) (b := false) (et_cmp (ed_isN (c := .int i) (ed_var rfl))) fun _ => et_val (ed_isiT (b := false) (b2 := false) (s := "int") (ed_var rfl) rfl (by decide +kernel) (by decide +kernel))) (fun h => nomatch h) fun _ => ?_
      exact r_ret (d := .bool true) (ed_and (a := true) (b := true) (ed_isi (s := "int") (ed_var rfl) rfl (by decide +kernel)) fun _ => ed_and (a := true) (b := true) (ed_not (a := false) (ed_isi (s := "int") (ed_var rfl) rfl (by decide +kernel))) fun _ => ed_eq (c := .int i) (e := .int i) (ed_var rfl) (ed_var rfl) (shaped_int i) (shaped_int i) (eqv_int i)) rfl
    | bool b =>
      refine r_guard (b := false) (et_val (ed_isiT (b := false) (b2 := false) (s := "bool") (ed_var rfl) rfl (by decide +kernel) (by decide +kernel))) (fun h => nomatch h) fun _ => ?_
      refine r_guard (b := true) (et_or (a := false) (b := true) (et_cmp (ed_isN (c := .bool b) (ed_var rfl))) fun _ => et_val (ed_isiT (b := true) (b2 := false) (s := "bool") (ed_var rfl) rfl (by decide +kernel) (by decide +kernel))) (fun _ => ?_) fun h => nomatch h
      exact r_ret (d := .bool true) (ed_and (a := true) (b := true) (ed_eq (c := .bool b) (e := .bool b) (ed_var rfl) (ed_var rfl) (hsb b) (hsb b) (eqv_bool b)) fun _ => ed_and (a := true) (b := true) (ed_eq (ed_isi (s := "bool") (b := true) (ed_var rfl) rfl (by decide +kernel)) (ed_isi (s := "bool") (b := true) (ed_var rfl) rfl (by decide +kernel)) (hsb _) (hsb _) (eqv_bool _)) fun _ =>
        ed_eq (ed_isN (c := .bool b) (ed_var rfl)) (ed_isN (c := .bool b) (ed_var rfl)) (hsb _) (hsb _) (eqv_bool _)) rfl
    | none =>
      refine r_guard (b := false) (et_val (ed_isiT (b := false) (b2 := false) (s := "NoneType") (ed_var rfl) rfl (by decide +kernel) (by decide +kernel))) (fun h => nomatch h) fun _ => ?_
      refine r_guard (b := true) (et_or (a := true) (b := true) (et_cmp (ed_isN (c := .none) (ed_var rfl))) fun h => nomatch h) (fun _ => ?_) fun h => nomatch h
      exact r_ret (d := .bool true) (ed_and (a := true) (b := true) (ed_eq (c := .none) (e := .none) (ed_var rfl) (ed_var rfl) (sh_none.ok (by decide)) (sh_none.ok (by decide)) (by simp [PyData.eqv])) fun _ => ed_and (a := true) (b := true) (ed_eq (ed_isi (s := "NoneType") (b := false) (ed_var rfl) rfl (by decide +kernel)) (ed_isi (s := "NoneType") (b := false) (ed_var rfl) rfl (by decide +kernel)) (hsb _) (hsb _) (eqv_bool _)) fun _ =>
        ed_eq (ed_isN (c := .none) (ed_var rfl)) (ed_isN (c := .none) (ed_var rfl)) (hsb _) (hsb _) (eqv_bool _)) rfl
    | tuple ds =>
      refine r_seqX (r_if (b := true) (et_val (ed_isiT (b := false) (b2 := true) (s := "tuple") (ed_var rfl) rfl (by decide +kernel) (by decide +kernel))) (fun _ => ?_) fun h => nomatch h)
      refine r_guard (b := false) (et_or (a := false) (b := false) (et_cmp (ed_ne (ed_isi (s := "tuple") (b := false) (ed_var rfl) rfl (by decide +kernel)) (ed_isi (s := "tuple") (b := false) (ed_var rfl) rfl (by decide +kernel)) (hsb _) (hsb _) (by rw [eqv_bool]; rfl))) fun _ =>
        et_cmp (ed_ne (ed_isi (s := "tuple") (b := true) (ed_var rfl) rfl (by decide +kernel)) (ed_isi (s := "tuple") (b := true) (ed_var rfl) rfl (by decide +kernel)) (hsb _) (hsb _) (by rw [eqv_bool]; rfl))) (fun h => nomatch h) fun _ => ?_
      exact r_ret (d := .bool true) (ed_and (a := true) (b := true) (ed_is (ed_eqI (ed_len (ds := ds) (ed_var rfl) (.inl rfl)) (ed_len (ds := ds) (ed_var rfl) (.inl rfl))) (by simp)) fun _ => ed_is (ed_all (bs := ds.map fun _ => true) (ed_l (el_lcE (l := ds) (enc := fun d => PyData.tuple [d, d]) (r := fun _ => PyData.bool true) (ei_zip (ds := ds) (es := ds) (ea_cons (ed_var rfl) (ea_cons (ed_var rfl) ea_nil)) (.inl ⟨rfl, rfl⟩)) (zipD_same ds) hp.1 (by decide) (fun d hd => ⟨_, eg_pair 2 3, ed_of (ep_call d (ea_cons (ed_var rfl) (ea_cons (ed_var rfl) ea_nil)) (hp.2 d hd)) fun _ h => h⟩) (by rw [List.map_map]; rfl)))) (by rw [all_true])) rfl
    | list ds =>
      refine r_seqX (r_if (b := true) (et_val (ed_isiT (b := true) (b2 := false) (s := "list") (ed_var rfl) rfl (by decide +kernel) (by decide +kernel))) (fun _ => ?_) fun h => nomatch h)
      refine r_guard (b := false) (et_or (a := false) (b := false) (et_cmp (ed_ne (ed_isi (s := "list") (b := true) (ed_var rfl) rfl (by decide +kernel)) (ed_isi (s := "list") (b := true) (ed_var rfl) rfl (by decide +kernel)) (hsb _) (hsb _) (by rw [eqv_bool]; rfl))) fun _ =>
        et_cmp (ed_ne (ed_isi (s := "list") (b := false) (ed_var rfl) rfl (by decide +kernel)) (ed_isi (s := "list") (b := false) (ed_var rfl) rfl (by decide +kernel)) (hsb _) (hsb _) (by rw [eqv_bool]; rfl))) (fun h => nomatch h) fun _ => ?_
      exact r_ret (d := .bool true) (ed_and (a := true) (b := true) (ed_is (ed_eqI (ed_len (ds := ds) (ed_var rfl) (.inr rfl)) (ed_len (ds := ds) (ed_var rfl) (.inr rfl))) (by simp)) fun _ => ed_is (ed_all (bs := ds.map fun _ => true) (ed_l (el_lcE (l := ds) (enc := fun d => PyData.tuple [d, d]) (r := fun _ => PyData.bool true) (ei_zip (ds := ds) (es := ds) (ea_cons (ed_var rfl) (ea_cons (ed_var rfl) ea_nil)) (.inr ⟨rfl, rfl⟩)) (zipD_same ds) hp.1 (by decide) (fun d hd => ⟨_, eg_pair 2 3, ed_of (ep_call d (ea_cons (ed_var rfl) (ea_cons (ed_var rfl) ea_nil)) (hp.2 d hd)) fun _ h => h⟩) (by rw [List.map_map]; rfl)))) (by rw [all_true])) rfl
    | str b => exact hp.elim
    | dict b => exact hp.elim
end
end My
namespace My
open PySem PySem.Spec PyProof.Rows L2
def cellF (ns : List Int) : Nat → Int
  | 0 => ns.headD 0
  | i + 1 => cellF ns i + (ns.getD (i + 1) 0) * ((i : Int) + 2)
def cellV (ns : List Int) : Int := cellF ns ((ns.drop 1).take 62).length
section
variable {P : Program} {w : World} {K : PySem.W.Frag} {mg : Str → Option Value} {base : Heap}
def spCells (K : PySem.W.Frag) : Sp := spT K (fun ns : List Int => [.list (ns.map .int), .int 1]) (fun ns => ns.length ≤ 63) (fun ns d => d = .list [.int (cellV ns)])
theorem cut63 (ds : List PyData) : cutD ds (some 1) (some 63) = (ds.drop 1).take 62 := by
  unfold cutD
  rw [show HT.sIx ds.length 0 (some 1) = min 1 ds.length from HT.sIx_nat ds.length 0 1, show HT.sIx ds.length ds.length (some 63) = min 63 ds.length from HT.sIx_nat ds.length ds.length 63]
  by_cases h : 63 ≤ ds.length
  · rw [Nat.min_eq_left (show 1 ≤ ds.length by omega), Nat.min_eq_left h]
  · by_cases h1 : 1 ≤ ds.length
    · rw [Nat.min_eq_left h1, Nat.min_eq_right (by omega), List.take_of_length_le (by rw [List.length_drop]; exact Nat.le_refl _), List.take_of_length_le (by rw [List.length_drop]; omega)]
    · have e : ds = [] := by
        cases ds with
        | nil => rfl
        | cons a b => simp at h1
      subst e
      rfl
theorem cut1 (ds : List PyData) : cutD ds none (some 1) = ds.take 1 := by
  unfold cutD
  rw [HT.sIx_none, show HT.sIx ds.length ds.length (some 1) = min 1 ds.length from HT.sIx_nat ds.length ds.length 1]
  cases ds with
  | nil => rfl
  | cons a b => simp
theorem ok__law_cells (D : Df K mg "_law_cells" s__law_cells ["_law_script", "_law_roof_so"]) (B : Blt mg) : Cal P w K mg base 1 "_law_cells" ["_law_script", "_law_roof_so"] (spCells K) := by
  refine cal_of D fun f fd F => fn_t F sc__law_cells (fun a _ => rfl) (by decide) fun cdv A outer s H E hr => ⟨_, (pss_cons (ps_set (i := 2) sc__law_cells.nd rfl (by first | exact Or.inl rfl | exact Or.inr rfl) (xe_or K (xe_list K B (pa_cons (xe_sl K (pv 0) po_none (po_some (pv 1))) pa_nil)) (pe_one (pe_lst (pa_cons pe_int pa_nil)))))
        (pss_cons (ps_for PassesOwn.never rfl (xi_enum K B (pa_cons (xe_sl K (pv 0) (po_some (pv 1)) (po_some pe_int)) pa_nil)) (xg_tup K (n := 2) (pgs_cons (pg_name (i := 3) sc__law_cells.nd rfl (by first | exact Or.inl rfl | exact Or.inr rfl)) (pgs_cons (pg_name (i := 4) sc__law_cells.nd rfl (by first | exact Or.inl rfl | exact Or.inr rfl)) pgs_nil))) (pss_cons (ps_set (i := 5) sc__law_cells.nd rfl (by first | exact Or.inl rfl | exact Or.inr rfl) (pe_op op_mod (xe_int B (pa_cons (pv 3) pa_nil)) (pv 1)))
        (pss_one (ps_asg (xe_add K (xe_ix K (pv 2) (pv 5)) (pe_op op_mul (pv 4) (xe_add K (pv 3) pe_int))) (pg_sub (pv 2) (pv 5) set_list)))))
        (pss_one (ps_ret (pv 2))))), fun ns hn => ?_⟩
  refine r_then (r_setL (i := 2) (ds := [.int (cellF ns 0)]) (el_is (el_orL (a := (ns.map PyData.int).take 1) (b := [.int 0]) (el_list (c := .list ((ns.map PyData.int).take 1)) (ed_l (el_is (el_sl (ds := ns.map .int) (lo := none) (hi := some 1) (ed_var rfl) eo_none (eo_some (ed_var rfl))) (cut1 _))) (.inr rfl)) (el_lst (ea_cons ed_int ea_nil) (by decide))) ?_) rfl) ?_
  · cases ns with
    | nil => rfl
    | cons a b => rfl
  have hlen : (enumD (((ns.map PyData.int).drop 1).take 62)).length = ((ns.drop 1).take 62).length := by
    rw [enumD_len, ← List.map_drop, ← List.map_take, List.length_map]
  have hle : ((ns.drop 1).take 62).length ≤ 62 := by
    rw [List.length_take]
    omega
  refine r_seq (M := fun z => ∃ s3 s4 s5, z = [SD.dat (.list (ns.map .int)), .dat (.int 1), .lv [.int (cellV ns)], s3, s4, s5])
    (r_for (ei_enum (ed_l (el_is (el_sl (ds := ns.map .int) (lo := some 1) (hi := some 63) (ed_var rfl) (eo_some (ed_var rfl)) (eo_some ed_int)) (cut63 _)))) (fun i z => ∃ s3 s4 s5, z = [SD.dat (.list (ns.map .int)), .dat (.int 1), .lv [.int (cellF ns i)], s3, s4, s5]) ⟨_, _, _, rfl⟩ (fun i d ρ1 hd iv => ?_) fun ρ1 iv => ?_) ?_
  · obtain ⟨s3, s4, s5, rfl⟩ := iv
    have hi := (List.getElem?_eq_some_iff.mp hd).1
    rw [hlen] at hi
    have hi2 : i + 1 < ns.length := by
      rw [List.length_take, List.length_drop] at hi
      omega
    have hget : (((ns.map PyData.int).drop 1).take 62)[i]? = some (.int (ns.getD (i + 1) 0)) := by
      rw [List.getElem?_take_of_lt (by omega), List.getElem?_drop, List.getElem?_map, Nat.add_comm 1 i, List.getElem?_eq_getElem hi2, getD_at hi2]
      rfl
    rw [enumD_get hget] at hd
    cases hd
    refine ⟨_, _, eg_pair 3 4, ?_⟩
    refine r_then (r_set (d := .int ((i : Int) % 1)) (ed_mod (ed_int1 (ed_var rfl)) (ed_var rfl) (by decide)) rfl) ?_
    rw [show (i : Int) % 1 = ((0 : Nat) : Int) by omega]
    exact r_setM (i := 2) (t := 5) (j := 0) (d := .int (cellF ns (i + 1))) rfl rfl (ed_add (ed_ixM (i := 2) (j := 0) rfl (ed_var rfl) rfl) (ed_mul (ed_var rfl) (ed_add (ed_var rfl) ed_int) (.inr ⟨by omega, by omega⟩))) (by show 0 < 1; decide) ⟨_, _, _, rfl⟩
  · rw [hlen] at iv
    exact iv
  rintro ρ1 ⟨s3, s4, s5, rfl⟩
  refine r_freeze (i := 2) rfl ?_
  exact r_ret (ed_var rfl) rfl
theorem bit_small (b : Bool) : -(2 ^ 64) < (if b then (1 : Int) else 0) ∧ (if b then (1 : Int) else 0) < 2 ^ 64 := by cases b <;> decide
def spBox (K : PySem.W.Frag) : Sp := spN K (fun b : Int => [.list [.int b], .int 0]) (fun _ => True) (fun _ ds => UrnOk 0 ds)
theorem ok__law_box (D : Df K mg "_law_box" s__law_box ["_law_script", "_law_k"]) (B : Blt mg) : Cal P w K mg base 1 "_law_box" ["_law_script", "_law_k"] (spBox K) := by
  refine cal_of D fun f fd F => fn_n F sc__law_box (fun a _ => rfl) (by decide) fun cdv A outer s H E hr => ⟨_, (pss_cons (ps_set (i := 2) sc__law_box.nd rfl (by first | exact Or.inl rfl | exact Or.inr rfl) (pe_ifExp (pt_cmpR op_lt (pv 1) (xe_len K B (pa_cons (pv 0) pa_nil)) (nomark _)) (xe_ix K (pv 0) (pv 1)) pe_int))
        (pss_one (ps_ret (pe_lst (pa_cons (pe_op op_mul (xe_abs B (pa_cons (pv 2) pa_nil)) (xe_int B (pa_cons (pe_cmpR op_ge (xe_abs B (pa_cons (pv 2) pa_nil)) (pe_op op_pow pe_int pe_int) (nomark _)) pa_nil))) (pa_cons (xe_add K (xe_add K (pe_op op_mod (xe_int B (pa_cons (pv 2) pa_nil)) pe_int) (pe_op op_mul pe_int (pv 1))) pe_int) (pa_cons pe_int pa_nil))))))), fun b _ => ?_⟩
  refine rl_set (d := .int b) (ed_if (b := true) (et_cmp (ed_is (ed_lt (m := 0) (n := 1) (ed_var rfl) (ed_is (ed_len (ds := [.int b]) (ed_var rfl) (.inr rfl)) rfl)) rfl)) (fun _ => ed_ixL (j := 0) (ed_var rfl) (ed_var rfl) rfl) fun h => nomatch h) ?_
  have e1 := Int.emod_nonneg b (show (2305843009213693951 : Int) ≠ 0 by decide)
  have e2 := Int.emod_lt_of_pos b (show (0 : Int) < 2305843009213693951 by decide)
  refine rl_ret (el_lst (ea_cons (ed_mul (ed_abs (ed_var rfl)) (ed_int1b (ed_ge (ed_abs (ed_var rfl)) (ed_pow ed_int ed_int ⟨by decide, by decide⟩))) (.inr (bit_small _))) (ea_cons (ed_add (ed_add (ed_mod (ed_int1 (ed_var rfl)) ed_int (by decide)) (ed_mul ed_int (ed_var rfl) (.inr ⟨by decide, by decide⟩))) ed_int) (ea_cons ed_int ea_nil))) (by show 3 ≤ 1000; decide)) ⟨_, _, _, rfl, by omega, by omega, by omega, by omega⟩
end
end My
namespace My
open PySem PySem.Spec PyProof.Rows L2
theorem small_of {s : Sheet} (h : s.mats ≠ [] ∧ s.n ≤ 100 ∧ s.mats.length ≤ 100 ∧ s.tells.length ≤ 10 ∧ (∀ m ∈ s.mats, m.length = s.n ∧ ∀ r ∈ m, r.length = s.n) ∧ ∀ t ∈ s.tells, t ≠ [] ∧ t.length ≤ 10 ∧ ∀ r ∈ t, r.length = s.n) : Small s := by
  obtain ⟨h1, h2, h3, h4, h5, h6⟩ := h
  exact ⟨⟨h1, h2, h3, by omega, h5, fun t ht => ⟨(h6 t ht).1, by have := (h6 t ht).2.1; omega, (h6 t ht).2.2⟩⟩, h4, fun t ht => (h6 t ht).2.1⟩
def goods (s t : Sheet) : List (List Nat) := (ordM s.n).filter fun p => decide (renS s p = t)
theorem match_cases {s t : Sheet} (A : Alike s t) : (∃ p, matchM s t = some p ∧ p ∈ goods s t) ∨ (matchM s t = none ∧ goods s t = []) := by
  cases h : matchM s t with
  | some p =>
    obtain ⟨h1, h2⟩ := match_some A h
    exact .inl ⟨p, rfl, List.mem_filter.mpr ⟨(ordM_mem _ _).mpr h1, by simp [h2]⟩⟩
  | none =>
    refine .inr ⟨rfl, List.eq_nil_iff_forall_not_mem.mpr fun p hp => ?_⟩
    obtain ⟨h1, h2⟩ := List.mem_filter.mp hp
    exact match_none A.ss.wf h ((ordM_mem _ _).mp h1) (of_decide_eq_true h2)
theorem match_one {s t : Sheet} (A : Alike s t) {p : List Nat} (h : goods s t = [p]) : matchM s t = some p := by
  rcases match_cases A with ⟨q, h1, h2⟩ | ⟨_, h2⟩
  · rw [h] at h2
    rw [h1, List.mem_singleton.mp h2]
  · rw [h] at h2; cases h2
theorem match_no {s t : Sheet} (A : Alike s t) (h : goods s t = []) : matchM s t = none := by
  rcases match_cases A with ⟨q, h1, h2⟩ | ⟨h1, _⟩
  · rw [h] at h2; cases h2
  · exact h1
theorem any_O (l : List (List Nat)) (p : List Nat) : ((l.map dO).any fun z => PyData.eqv z (dO p)) = decide (p ∈ l) := by
  induction l with
  | nil => rfl
  | cons a l ih =>
    rw [List.map_cons, List.any_cons, ih, eqe_O]
    by_cases h : a = p
    · subst h; simp
    · have h' : p ≠ a := fun e => h e.symm
      simp [h, h']
theorem sok_bools {n : Nat} (l : List Bool) (h : l.length ≤ 1000) : SOk (n + 2) (.list (l.map .bool)) := ⟨by rw [List.length_map]; exact h, fun d hd => by
  obtain ⟨b, _, rfl⟩ := List.mem_map.mp hd
  exact True.intro⟩
theorem sok_O {n : Nat} (l : List Nat) (h : l.length ≤ 1000) : SOk (n + 2) (dO l) := ⟨by rw [List.length_map]; exact h, fun d hd => by
  obtain ⟨b, _, rfl⟩ := List.mem_map.mp hd
  exact True.intro⟩
def fo : Fr := (0, 1)
def fe : Fr := (1, 1)
def fh : Fr := (1, 2)
def ringS : Sheet := ⟨[[[fo, fe, fo], [fo, fo, fe], [fe, fo, fo]]], []⟩
def backS : Sheet := ⟨[[[fo, fo, fe], [fe, fo, fo], [fo, fe, fo]]], []⟩
def markS : Sheet := ⟨ringS.mats, [[[fh, fo, fo]]]⟩
def mark2 : Sheet := ⟨ringS.mats, [[[fo, fh, fo]]]⟩
def mark3 : Sheet := ⟨ringS.mats, [[[fh, fh, fo]]]⟩
def oneS : Sheet := ⟨[[[fo, fo], [fo, fo]]], [[[fo, fo]], [[fh, fo]]]⟩
def twoS : Sheet := ⟨[[[fo, fo], [fo, fo]]], [[[fo, fo]], [[fo, fh]]]⟩
theorem sm_ring : Small ringS := small_of (by decide)
theorem sm_back : Small backS := small_of (by decide)
theorem sm_mark : Small markS := small_of (by decide)
theorem sm_mark2 : Small mark2 := small_of (by decide)
theorem sm_mark3 : Small mark3 := small_of (by decide)
theorem sm_one : Small oneS := small_of (by decide)
theorem sm_two : Small twoS := small_of (by decide)
theorem pre_of {s t : Sheet} (A : Alike s t) : MatchPre (s, t) := ⟨A.ss, A.st, A.nn, A.ml, A.tl⟩
theorem al_rb : Alike ringS backS := ⟨sm_ring, sm_back, by decide, by decide, by decide, by decide, by decide⟩
theorem al_mm : Alike markS markS := ⟨sm_mark, sm_mark, by decide, by decide, by decide, by decide, by decide⟩
theorem al_m2 : Alike markS mark2 := ⟨sm_mark, sm_mark2, by decide, by decide, by decide, by decide, by decide⟩
theorem al_m3 : Alike markS mark3 := ⟨sm_mark, sm_mark3, by decide, by decide, by decide, by decide, by decide⟩
theorem al_12 : Alike oneS twoS := ⟨sm_one, sm_two, by decide, by decide, by decide, by decide, by decide⟩
theorem al_11 : Alike oneS oneS := ⟨sm_one, sm_one, by decide, by decide, by decide, by decide, by decide⟩
theorem go_rb : goods ringS backS = [[2, 1, 0], [0, 2, 1], [1, 0, 2]] ∨ ∀ p ∈ goods ringS backS, p ∈ [[0, 2, 1], [1, 0, 2], [2, 1, 0]] := .inr (by decide)
theorem go_rb1 : goods ringS backS ≠ [] := by decide
theorem go_mm : goods markS markS = [[0, 1, 2]] := by decide
theorem go_m2 : goods markS mark2 = [[2, 0, 1]] := by decide
theorem go_m3 : goods markS mark3 = [] := by decide
theorem go_12 : goods oneS twoS = [[1, 0]] := by decide
theorem go_11 : goods oneS oneS = [[0, 1]] := by decide
theorem im_5 : ([[0, 1, 2], [1, 2, 0], [2, 0, 1], [0, 2, 1], [1, 0, 2]] : List (List Nat)).map (isMatB ringS ringS) = [true, true, true, false, false] := by decide
theorem im_2 : ([[0, 1, 2], [1, 2, 0]] : List (List Nat)).map (isMatB markS markS) = [true, false] := by decide
end My
namespace My
open PySem PySem.Spec PyProof.Rows L2
section
variable {P : Program} {w : World} {K : PySem.W.Frag} {mg : Str → Option Value} {base : Heap} {ρ : Ro} {ta tb tc : TE} {c d e : PyData}
theorem eg_triple (i j k : Nat) : EvG K (gTup K 3 (gCons (gName i) (gCons (gName j) (gCons (gName k) gNil)))) ρ (.tuple [c, d, e]) (((ρ.set i (.dat c)).set j (.dat d)).set k (.dat e)) [i, j, k] := fun B G H σ x Q E h q => by
  obtain ⟨a, xs, rfl, a1, a2⟩ := dp_tup h
  cases a2 with
  | cons r1 r2 =>
    cases r2 with
    | cons r2 r3 =>
      cases r3 with
      | cons r3 r4 =>
        cases r4
        refine ⟨a, _, rfl, Evl.ex_t E.sub a1, rfl, _, _, rfl, _, _, rfl, _, _, rfl, rfl, ?_⟩
        refine q _ (((E.setD r1).setD r2).setD r3) fun vs hv => ?_
        rw [wipe_set (hv k (by simp)), wipe_set (hv j (by simp)), wipe_set (hv i (by simp))]
theorem ed_t1 (a : EvD K ta ρ c) : EvD K (tTup (tCons ta tNil)) ρ (.tuple [c]) := ed_tup (ea_cons a ea_nil) (by show 1 ≤ 1000; decide)
theorem ed_t2 (a : EvD K ta ρ c) (b : EvD K tb ρ d) : EvD K (tTup (tCons ta (tCons tb tNil))) ρ (.tuple [c, d]) := ed_tup (ea_cons a (ea_cons b ea_nil)) (by show 2 ≤ 1000; decide)
theorem ed_t3 (a : EvD K ta ρ c) (b : EvD K tb ρ d) (h : EvD K tc ρ e) : EvD K (tTup (tCons ta (tCons tb (tCons tc tNil)))) ρ (.tuple [c, d, e]) := ed_tup (ea_cons a (ea_cons b (ea_cons h ea_nil))) (by show 3 ≤ 1000; decide)
theorem ed_t0 : EvD K (tTup tNil) ρ (.tuple []) := ed_tup ea_nil (by decide)
theorem ed_o3 {x y z : Nat} : EvD K (tTup (tCons (tC (.int (x : Int))) (tCons (tC (.int (y : Int))) (tCons (tC (.int (z : Int))) tNil)))) ρ (dO [x, y, z]) := ed_t3 ed_int ed_int ed_int
theorem ed_o2 {x y : Nat} : EvD K (tTup (tCons (tC (.int (x : Int))) (tCons (tC (.int (y : Int))) tNil))) ρ (dO [x, y]) := ed_t2 ed_int ed_int
/-- a matching's answer, known -/
theorem ed_mat {s t : Sheet} {o : Option (List Nat)} {E0 : XK} (A : Alike s t) (h : matchM s t = o) (ha : EvD K ta ρ (dS s)) (hb : EvD K tb ρ (dS t)) : EvD K (tCall (spMatch K) [] E0 (tCons ta (tCons tb tNil))) ρ (dOpt o) := ed_of (ep_call (s, t) (ea_cons ha (ea_cons hb ea_nil)) (pre_of A)) fun e he => by rw [← h]; exact he
theorem ed_ism {s : Sheet} {l : List Nat} {E0 : XK} (S : Small s) (hl : l.length ≤ 100) (ha : EvD K ta ρ (dS s)) (hb : EvD K tb ρ (dS s)) (hc : EvD K tc ρ (dO l)) : EvD K (tCall (spIsM K) [] E0 (tCons ta (tCons tb (tCons tc tNil)))) ρ (.bool (isMatB s s l)) := ed_of (ep_call (ImIn.mk s s true l) (ea_cons ha (ea_cons hb (ea_cons hc ea_nil))) ⟨S.wf, S.wf, hl⟩) fun e he => he
def dueD : PyData := .list [.list ([true, true, true, false, false].map .bool), .bool true, dO [0, 1, 2], dO [2, 0, 1], .none, .list ([true, false].map .bool), dO [1, 0], dO [0, 1]]
theorem sok_due : SOk 3 dueD := ⟨by show 8 ≤ 1000; decide, fun d hd => by
  simp only [List.mem_cons, List.not_mem_nil, or_false] at hd
  rcases hd with rfl | rfl | rfl | rfl | rfl | rfl | rfl | rfl
  · exact sok_bools _ (by decide)
  · exact True.intro
  · exact sok_O _ (by decide)
  · exact sok_O _ (by decide)
  · exact True.intro
  · exact sok_bools _ (by decide)
  · exact sok_O _ (by decide)
  · exact sok_O _ (by decide)⟩
def spHand (K : PySem.W.Frag) : Sp := spT K (fun _ : Unit => []) (fun _ => True) (fun _ d => d = .bool true)
theorem ok__law_by_hand_right (D : Df K mg "_law_by_hand_right" s__law_by_hand_right []) (B : Blt mg) (c_matching : Cal P w K mg base 103 "matching" ["sheet", "other"] (spMatch K)) (c_is_matching : Cal P w K mg base 8 "is_matching" ["sheet", "other", "thing"] (spIsM K)) (c__law_same : Cal P w K mg base 3 "_law_same" ["_law_near", "_law_goal"] (spSame K 3)) :
    Cal P w K mg base 104 "_law_by_hand_right" [] (spHand K) := by
  refine cal_of D fun f fd F => fn_t F sc__law_by_hand_right (fun a _ => rfl) (by decide) fun cdv A outer s H E hr => ⟨_, (pss_cons (ps_asg (pe_tup (pa_cons (pe_tup (pa_cons pe_int (pa_cons pe_int pa_nil))) (pa_cons (pe_tup (pa_cons pe_int (pa_cons pe_int pa_nil))) (pa_cons (pe_tup (pa_cons pe_int (pa_cons pe_int pa_nil))) pa_nil)))) (xg_tup K (n := 3) (pgs_cons (pg_name (i := 0) sc__law_by_hand_right.nd rfl (by first | exact Or.inl rfl | exact Or.inr rfl)) (pgs_cons (pg_name (i := 1) sc__law_by_hand_right.nd rfl (by first | exact Or.inl rfl | exact Or.inr rfl)) (pgs_cons (pg_name (i := 2) sc__law_by_hand_right.nd rfl (by first | exact Or.inl rfl | exact Or.inr rfl)) pgs_nil)))))
        (pss_cons (ps_set (i := 3) sc__law_by_hand_right.nd rfl (by first | exact Or.inl rfl | exact Or.inr rfl) (pe_tup (pa_cons (pe_tup (pa_cons (pe_tup (pa_cons (pe_tup (pa_cons (pv 0) (pa_cons (pv 1) (pa_cons (pv 0) pa_nil)))) (pa_cons (pe_tup (pa_cons (pv 0) (pa_cons (pv 0) (pa_cons (pv 1) pa_nil)))) (pa_cons (pe_tup (pa_cons (pv 1) (pa_cons (pv 0) (pa_cons (pv 0) pa_nil)))) pa_nil)))) pa_nil)) (pa_cons (pe_tup pa_nil) pa_nil))))
        (pss_cons (ps_set (i := 4) sc__law_by_hand_right.nd rfl (by first | exact Or.inl rfl | exact Or.inr rfl) (pe_tup (pa_cons (pe_tup (pa_cons (pe_tup (pa_cons (pe_tup (pa_cons (pv 0) (pa_cons (pv 0) (pa_cons (pv 1) pa_nil)))) (pa_cons (pe_tup (pa_cons (pv 1) (pa_cons (pv 0) (pa_cons (pv 0) pa_nil)))) (pa_cons (pe_tup (pa_cons (pv 0) (pa_cons (pv 1) (pa_cons (pv 0) pa_nil)))) pa_nil)))) pa_nil)) (pa_cons (pe_tup pa_nil) pa_nil))))
        (pss_cons (ps_set (i := 5) sc__law_by_hand_right.nd rfl (by first | exact Or.inl rfl | exact Or.inr rfl) (pe_tup (pa_cons (xe_ix K (pv 3) pe_int) (pa_cons (pe_tup (pa_cons (pe_tup (pa_cons (pe_tup (pa_cons (pv 2) (pa_cons (pv 0) (pa_cons (pv 0) pa_nil)))) pa_nil)) pa_nil)) pa_nil))))
        (pss_cons (ps_set (i := 6) sc__law_by_hand_right.nd rfl (by first | exact Or.inl rfl | exact Or.inr rfl) (pe_lst (pa_cons (pe_lc (own := [("_law_own", 11)]) rfl sc__law_by_hand_right.nd (xi_seq K (pe_tup (pa_cons (pe_tup (pa_cons pe_int (pa_cons pe_int (pa_cons pe_int pa_nil)))) (pa_cons (pe_tup (pa_cons pe_int (pa_cons pe_int (pa_cons pe_int pa_nil)))) (pa_cons (pe_tup (pa_cons pe_int (pa_cons pe_int (pa_cons pe_int pa_nil)))) (pa_cons (pe_tup (pa_cons pe_int (pa_cons pe_int (pa_cons pe_int pa_nil)))) (pa_cons (pe_tup (pa_cons pe_int (pa_cons pe_int (pa_cons pe_int pa_nil)))) pa_nil))))))) (blkOk_by (by rfl)) (fun _ _ _ _ _ => (pg_name (i := 11) sc__law_by_hand_right.nd rfl (by first | exact Or.inl rfl | exact Or.inr rfl))) (fun _ _ _ _ _ => pts_nil) (fun _ _ _ _ _ => (pe_cal c_is_matching hr (by omega) rfl (pa_cons (pv 3) (pa_cons (pv 3) (pa_cons (pv 11) pa_nil)))))) pa_nil)))
        (pss_cons (ps_set (i := 7) sc__law_by_hand_right.nd rfl (by first | exact Or.inl rfl | exact Or.inr rfl) (pe_lst (pa_cons (pe_lst (pa_cons pe_bl (pa_cons pe_bl (pa_cons pe_bl (pa_cons pe_bl (pa_cons pe_bl pa_nil)))))) pa_nil)))
        (pss_cons (ps_set (i := 6) sc__law_by_hand_right.nd rfl (by first | exact Or.inl rfl | exact Or.inr rfl) (xe_add K (pv 6) (pe_lst (pa_cons (xe_in K hr (pe_cal c_matching hr (by omega) rfl (pa_cons (pv 3) (pa_cons (pv 4) pa_nil))) (pe_tup (pa_cons (pe_tup (pa_cons pe_int (pa_cons pe_int (pa_cons pe_int pa_nil)))) (pa_cons (pe_tup (pa_cons pe_int (pa_cons pe_int (pa_cons pe_int pa_nil)))) (pa_cons (pe_tup (pa_cons pe_int (pa_cons pe_int (pa_cons pe_int pa_nil)))) pa_nil))))) (pa_cons (pe_cal c_matching hr (by omega) rfl (pa_cons (pv 5) (pa_cons (pv 5) pa_nil))) pa_nil)))))
        (pss_cons (ps_set (i := 7) sc__law_by_hand_right.nd rfl (by first | exact Or.inl rfl | exact Or.inr rfl) (xe_add K (pv 7) (pe_lst (pa_cons pe_bl (pa_cons (pe_tup (pa_cons pe_int (pa_cons pe_int (pa_cons pe_int pa_nil)))) pa_nil)))))
        (pss_cons (ps_expr (pe_bm PySem.F.plainAttrs_list PySem.F.slot_list_append PySem.F.type_list_append mt_append (pv 6) (pa_cons (pe_cal c_matching hr (by omega) rfl (pa_cons (pv 5) (pa_cons (pe_tup (pa_cons (xe_ix K (pv 3) pe_int) (pa_cons (pe_tup (pa_cons (pe_tup (pa_cons (pe_tup (pa_cons (pv 0) (pa_cons (pv 2) (pa_cons (pv 0) pa_nil)))) pa_nil)) pa_nil)) pa_nil))) pa_nil))) pa_nil)))
        (pss_cons (ps_expr (pe_bm PySem.F.plainAttrs_list PySem.F.slot_list_append PySem.F.type_list_append mt_append (pv 7) (pa_cons (pe_tup (pa_cons pe_int (pa_cons pe_int (pa_cons pe_int pa_nil)))) pa_nil)))
        (pss_cons (ps_expr (pe_bm PySem.F.plainAttrs_list PySem.F.slot_list_append PySem.F.type_list_append mt_append (pv 6) (pa_cons (pe_cal c_matching hr (by omega) rfl (pa_cons (pv 5) (pa_cons (pe_tup (pa_cons (xe_ix K (pv 3) pe_int) (pa_cons (pe_tup (pa_cons (pe_tup (pa_cons (pe_tup (pa_cons (pv 2) (pa_cons (pv 2) (pa_cons (pv 0) pa_nil)))) pa_nil)) pa_nil)) pa_nil))) pa_nil))) pa_nil)))
        (pss_cons (ps_expr (pe_bm PySem.F.plainAttrs_list PySem.F.slot_list_append PySem.F.type_list_append mt_append (pv 6) (pa_cons (pe_lc (own := [("_law_own", 11)]) rfl sc__law_by_hand_right.nd (xi_seq K (pe_tup (pa_cons (pe_tup (pa_cons pe_int (pa_cons pe_int (pa_cons pe_int pa_nil)))) (pa_cons (pe_tup (pa_cons pe_int (pa_cons pe_int (pa_cons pe_int pa_nil)))) pa_nil)))) (blkOk_by (by rfl)) (fun _ _ _ _ _ => (pg_name (i := 11) sc__law_by_hand_right.nd rfl (by first | exact Or.inl rfl | exact Or.inr rfl))) (fun _ _ _ _ _ => pts_nil) (fun _ _ _ _ _ => (pe_cal c_is_matching hr (by omega) rfl (pa_cons (pv 5) (pa_cons (pv 5) (pa_cons (pv 11) pa_nil)))))) pa_nil)))
        (pss_cons (ps_set (i := 7) sc__law_by_hand_right.nd rfl (by first | exact Or.inl rfl | exact Or.inr rfl) (xe_add K (pv 7) (pe_lst (pa_cons pe_non (pa_cons (pe_lst (pa_cons pe_bl (pa_cons pe_bl pa_nil))) pa_nil)))))
        (pss_cons (ps_set (i := 8) sc__law_by_hand_right.nd rfl (by first | exact Or.inl rfl | exact Or.inr rfl) (pe_tup (pa_cons (pe_tup (pa_cons (pv 0) (pa_cons (pv 0) pa_nil))) (pa_cons (pe_tup (pa_cons (pv 0) (pa_cons (pv 0) pa_nil))) pa_nil))))
        (pss_cons (ps_par (i := 9) (j := 10) (by rfl) sc__law_by_hand_right.nd rfl rfl (by decide) rfl rfl (pa_cons (pe_tup (pa_cons (pe_tup (pa_cons (pv 8) pa_nil)) (pa_cons (pe_tup (pa_cons (pe_tup (pa_cons (pe_tup (pa_cons (pv 0) (pa_cons (pv 0) pa_nil))) pa_nil)) (pa_cons (pe_tup (pa_cons (pe_tup (pa_cons (pv 2) (pa_cons (pv 0) pa_nil))) pa_nil)) pa_nil))) pa_nil))) (pa_cons (pe_tup (pa_cons (pe_tup (pa_cons (pv 8) pa_nil)) (pa_cons (pe_tup (pa_cons (pe_tup (pa_cons (pe_tup (pa_cons (pv 0) (pa_cons (pv 0) pa_nil))) pa_nil)) (pa_cons (pe_tup (pa_cons (pe_tup (pa_cons (pv 0) (pa_cons (pv 2) pa_nil))) pa_nil)) pa_nil))) pa_nil))) pa_nil)) (by rfl))
        (pss_cons (ps_set (i := 6) sc__law_by_hand_right.nd rfl (by first | exact Or.inl rfl | exact Or.inr rfl) (xe_add K (pv 6) (pe_lst (pa_cons (pe_cal c_matching hr (by omega) rfl (pa_cons (pv 9) (pa_cons (pv 10) pa_nil))) (pa_cons (pe_cal c_matching hr (by omega) rfl (pa_cons (pv 9) (pa_cons (pv 9) pa_nil))) pa_nil)))))
        (pss_one (ps_ret (pe_cal c__law_same hr (by omega) rfl (pa_cons (pv 6) (pa_cons (xe_add K (pv 7) (pe_lst (pa_cons (pe_tup (pa_cons pe_int (pa_cons pe_int pa_nil))) (pa_cons (pe_tup (pa_cons pe_int (pa_cons pe_int pa_nil))) pa_nil)))) pa_nil))))))))))))))))))))), fun _ _ => ?_⟩
  refine r_then (r_asgG (d := .tuple [dF fo, dF fe, dF fh]) (ed_t3 (ed_t2 ed_int ed_int) (ed_t2 ed_int ed_int) (ed_t2 ed_int ed_int)) (eg_triple 0 1 2) rfl) ?_
  refine r_then (r_set (d := dS ringS) (ed_t2 (ed_t1 (ed_t3 (ed_t3 (ed_var rfl) (ed_var rfl) (ed_var rfl)) (ed_t3 (ed_var rfl) (ed_var rfl) (ed_var rfl)) (ed_t3 (ed_var rfl) (ed_var rfl) (ed_var rfl)))) ed_t0) rfl) ?_
  refine r_then (r_set (d := dS backS) (ed_t2 (ed_t1 (ed_t3 (ed_t3 (ed_var rfl) (ed_var rfl) (ed_var rfl)) (ed_t3 (ed_var rfl) (ed_var rfl) (ed_var rfl)) (ed_t3 (ed_var rfl) (ed_var rfl) (ed_var rfl)))) ed_t0) rfl) ?_
  refine r_then (r_set (d := dS markS) (ed_t2 (ed_ix (j := 0) (ed_var (d := dS ringS) rfl) ed_int rfl) (ed_t1 (ed_t1 (ed_t3 (ed_var rfl) (ed_var rfl) (ed_var rfl))))) rfl) ?_
  refine r_then (r_set (d := .list [.list ([true, true, true, false, false].map .bool)]) (ed_l (el_lst (ea_cons (ed_l (el_lcE (l := [[0, 1, 2], [1, 2, 0], [2, 0, 1], [0, 2, 1], [1, 0, 2]]) (enc := dO) (r := fun l => .bool (isMatB ringS ringS l)) (ei_tup (ed_tup (ea_cons ed_o3 (ea_cons ed_o3 (ea_cons ed_o3 (ea_cons ed_o3 (ea_cons ed_o3 ea_nil))))) (by decide))) rfl (by decide) (by decide) (fun l hl => ⟨_, eg_name 11, ed_ism sm_ring (by
    simp only [List.mem_cons, List.not_mem_nil, or_false] at hl
    rcases hl with rfl | rfl | rfl | rfl | rfl <;> decide) (ed_var rfl) (ed_var rfl) (ed_var rfl)⟩) (by rw [← im_5, List.map_map]; rfl))) ea_nil) (by show 1 ≤ 1000; decide))) rfl) ?_
  refine r_then (r_set (d := .list [.list ([true, true, true, false, false].map .bool)]) (ed_l (el_lst (ea_cons (ed_l (el_lst (ea_cons ed_bl (ea_cons ed_bl (ea_cons ed_bl (ea_cons ed_bl (ea_cons ed_bl ea_nil))))) (by decide))) ea_nil) (by show 1 ≤ 1000; decide))) rfl) ?_
  refine r_then (r_setL (i := 6) (el_add (ds := [.list ([true, true, true, false, false].map .bool)]) (es := [.bool true, dO [0, 1, 2]]) (ed_var rfl) (ed_l (el_lst (ea_cons (ed_in (P := fun d => ∃ p, d = dO p ∧ p ∈ goods ringS backS) (ds := ([[0, 2, 1], [1, 0, 2], [2, 1, 0]] : List (List Nat)).map dO) (ep_mono (ep_call (ringS, backS) (ea_cons (ed_var rfl) (ea_cons (ed_var rfl) ea_nil)) (pre_of al_rb)) fun d hd => ?_) (ed_tup (ea_cons ed_o3 (ea_cons ed_o3 (ea_cons ed_o3 ea_nil))) (by decide)) (.inr rfl) (show SeqAt.shaped (PyData.tuple (([[0, 2, 1], [1, 0, 2], [2, 1, 0]] : List (List Nat)).map dO)) = true from (sh_map sh_O _).ok (by decide)) fun c hc => ?_)
    (ea_cons (ed_mat al_mm (match_one al_mm go_mm) (ed_var rfl) (ed_var rfl)) ea_nil)) (by show 2 ≤ 1000; decide))) (by decide)) rfl) ?_
  · rcases match_cases al_rb with ⟨p, h1, h2⟩ | ⟨_, h2⟩
    · refine ⟨p, ?_, h2⟩
      rw [hd, h1]
      rfl
    · exact absurd h2 go_rb1
  · obtain ⟨p, rfl, hp⟩ := hc
    refine ⟨(sh_O p).ok (by decide), ?_⟩
    rw [any_O]
    rcases go_rb with h | h
    · rw [h] at hp
      simp only [List.mem_cons, List.not_mem_nil, or_false] at hp
      rcases hp with rfl | rfl | rfl <;> decide
    · exact decide_eq_true (h p hp)
  refine r_then (r_setL (i := 7) (el_add (ds := [.list ([true, true, true, false, false].map .bool)]) (es := [.bool true, dO [0, 1, 2]]) (ed_var rfl) (ed_l (el_lst (ea_cons ed_bl (ea_cons ed_o3 ea_nil)) (by show 2 ≤ 1000; decide))) (by decide)) rfl) ?_
  refine r_then (r_app (i := 6) (d := dO [2, 0, 1]) rfl (ed_mat al_m2 (match_one al_m2 go_m2) (ed_var rfl) (ed_t2 (ed_ix (j := 0) (ed_var (d := dS ringS) rfl) ed_int rfl) (ed_t1 (ed_t1 (ed_t3 (ed_var rfl) (ed_var rfl) (ed_var rfl)))))) (by decide) rfl) ?_
  refine r_then (r_app (i := 7) (d := dO [2, 0, 1]) rfl ed_o3 (by decide) rfl) ?_
  refine r_then (r_app (i := 6) (d := .none) rfl (ed_mat al_m3 (match_no al_m3 go_m3) (ed_var rfl) (ed_t2 (ed_ix (j := 0) (ed_var (d := dS ringS) rfl) ed_int rfl) (ed_t1 (ed_t1 (ed_t3 (ed_var rfl) (ed_var rfl) (ed_var rfl)))))) (by decide) rfl) ?_
  refine r_then (r_app (i := 6) (d := .list ([true, false].map .bool)) rfl (ed_l (el_lcE (l := [[0, 1, 2], [1, 2, 0]]) (enc := dO) (r := fun l => .bool (isMatB markS markS l)) (ei_tup (ed_t2 ed_o3 ed_o3)) rfl (by decide) (by decide) (fun l hl => ⟨_, eg_name 11, ed_ism sm_mark (by
    simp only [List.mem_cons, List.not_mem_nil, or_false] at hl
    rcases hl with rfl | rfl <;> decide) (ed_var rfl) (ed_var rfl) (ed_var rfl)⟩) (by rw [← im_2, List.map_map]; rfl))) (by decide) rfl) ?_
  refine r_freeze (i := 7) rfl ?_
  refine r_then (r_set (d := .list [.list ([true, true, true, false, false].map .bool), .bool true, dO [0, 1, 2], dO [2, 0, 1], .none, .list ([true, false].map .bool)]) (ed_l (el_add (ds := [.list ([true, true, true, false, false].map .bool), .bool true, dO [0, 1, 2], dO [2, 0, 1]]) (es := [.none, .list ([true, false].map .bool)]) (ed_var rfl) (ed_l (el_lst (ea_cons ed_non (ea_cons (ed_l (el_lst (ea_cons ed_bl (ea_cons ed_bl ea_nil)) (by decide))) ea_nil)) (by show 2 ≤ 1000; decide))) (by decide))) rfl) ?_
  refine r_then (r_set (d := dM [[fo, fo], [fo, fo]]) (ed_t2 (ed_t2 (ed_var rfl) (ed_var rfl)) (ed_t2 (ed_var rfl) (ed_var rfl))) rfl) ?_
  refine r_then (r_par (c := dS oneS) (d := dS twoS) (ea_cons (ed_t2 (ed_t1 (ed_var rfl)) (ed_t2 (ed_t1 (ed_t2 (ed_var rfl) (ed_var rfl))) (ed_t1 (ed_t2 (ed_var rfl) (ed_var rfl))))) (ea_cons (ed_t2 (ed_t1 (ed_var rfl)) (ed_t2 (ed_t1 (ed_t2 (ed_var rfl) (ed_var rfl))) (ed_t1 (ed_t2 (ed_var rfl) (ed_var rfl))))) ea_nil)) rfl) ?_
  refine r_freeze (i := 6) rfl ?_
  refine r_then (r_set (d := dueD) (ed_l (el_add (ds := [.list ([true, true, true, false, false].map .bool), .bool true, dO [0, 1, 2], dO [2, 0, 1], .none, .list ([true, false].map .bool)]) (es := [dO [1, 0], dO [0, 1]]) (ed_var rfl) (ed_l (el_lst (ea_cons (ed_mat al_12 (match_one al_12 go_12) (ed_var rfl) (ed_var rfl)) (ea_cons (ed_mat al_11 (match_one al_11 go_11) (ed_var rfl) (ed_var rfl)) ea_nil)) (by show 2 ≤ 1000; decide))) (by decide))) rfl) ?_
  exact r_ret (ed_of (ep_call dueD (ea_cons (ed_var rfl) (ea_cons (ed_l (el_add (ds := [.list ([true, true, true, false, false].map .bool), .bool true, dO [0, 1, 2], dO [2, 0, 1], .none, .list ([true, false].map .bool)]) (es := [dO [1, 0], dO [0, 1]]) (ed_var rfl) (ed_l (el_lst (ea_cons ed_o2 (ea_cons ed_o2 ea_nil)) (by show 2 ≤ 1000; decide))) (by decide))) ea_nil)) sok_due) fun _ h => h) rfl
end
end My
namespace My
open PySem PySem.Spec PyProof.Rows L2
structure Shp (p n : Nat) (s : Sheet) : Prop where
  ml : s.mats.length = p
  mm : ∀ m ∈ s.mats, m.length = n ∧ ∀ r ∈ m, r.length = n
  tl : s.tells.length ≤ 2
  tt : ∀ t ∈ s.tells, t.length = p ∧ ∀ r ∈ t, r.length = n
theorem Few.shp {p n : Nat} {s : Sheet} (h : Few p n s) : Shp p n s := ⟨h.ml, fun m hm => ⟨(h.mm m hm).1, fun r hr => ((h.mm m hm).2 r hr).1⟩, h.tl, fun m hm => ⟨(h.tt m hm).1, fun r hr => ((h.tt m hm).2 r hr).1⟩⟩
theorem Shp.nn {p n : Nat} {s : Sheet} (h : Shp p n s) (hp : 1 ≤ p) : s.n = n := by
  have h1 := h.ml
  have h2 := h.mm
  unfold Sheet.n
  cases e : s.mats with
  | nil => rw [e] at h1; simp at h1; omega
  | cons m ms => exact (h2 m (by rw [e]; exact List.mem_cons_self)).1
theorem Shp.small {p n : Nat} {s : Sheet} (h : Shp p n s) (hp : 1 ≤ p) (hp2 : p ≤ 2) (hn : n ≤ 4) : Small s := by
  have e := h.nn hp
  have h1 := h.ml
  have h2 := h.tl
  refine small_of ⟨fun z => ?_, by omega, by omega, by omega, ?_, fun t ht => ⟨fun z => ?_, ?_, ?_⟩⟩
  · rw [z] at h1; simp at h1; omega
  · rw [e]; exact h.mm
  · have := (h.tt t ht).1
    rw [z] at this; simp at this; omega
  · have := (h.tt t ht).1
    omega
  · rw [e]; exact (h.tt t ht).2
theorem alike_of {p n : Nat} {s t : Sheet} (hs : Shp p n s) (ht : Shp p n t) (hp : 1 ≤ p) (hp2 : p ≤ 2) (hn : n ≤ 4) (e : t.tells.length = s.tells.length) : Alike s t :=
  ⟨hs.small hp hp2 hn, ht.small hp hp2 hn, by rw [hs.nn hp, ht.nn hp], by rw [hs.ml, ht.ml], e, fun x hx => by rw [hs.ml]; exact (hs.tt x hx).1, fun x hx => by rw [ht.ml]; exact (ht.tt x hx).1⟩
theorem row_ren {n : Nat} {r : Rw} {o : List Nat} (h : RowOk n r) (ho : IsP n o) : RowOk n (renR r o) := by
  refine ⟨by unfold renR; rw [List.length_map]; exact ho.len, fun f hf => ?_⟩
  obtain ⟨k, hk, rfl⟩ := List.mem_map.mp hf
  exact h.2 _ (getD_mem (by rw [h.1]; exact ho.lt k hk))
theorem few_ren {p n : Nat} {s : Sheet} {o : List Nat} (h : Few p n s) (ho : IsP n o) : Few p n (renS s o) := by
  refine ⟨by show (s.mats.map _).length = p; rw [List.length_map]; exact h.ml, fun m hm => ?_, by show (s.tells.map _).length ≤ 2; rw [List.length_map]; exact h.tl, fun t ht => ?_⟩
  · obtain ⟨x, hx, rfl⟩ := List.mem_map.mp hm
    refine ⟨by unfold renM; rw [List.length_map]; exact ho.len, fun r hr => ?_⟩
    obtain ⟨k, hk, rfl⟩ := List.mem_map.mp hr
    have q := h.mm x hx
    exact row_ren (q.2 _ (getD_mem (by rw [q.1]; exact ho.lt k hk))) ho
  · obtain ⟨x, hx, rfl⟩ := List.mem_map.mp ht
    have q := h.tt x hx
    refine ⟨by rw [List.length_map]; exact q.1, fun r hr => ?_⟩
    obtain ⟨y, hy, rfl⟩ := List.mem_map.mp hr
    exact row_ren (q.2 y hy) ho
theorem Chg.shp {p n : Nat} {s t : Sheet} (h : Chg s n t) (hs : Shp p n s) : Shp p n t := ⟨by rw [h.1]; exact hs.ml, h.2.1, by rw [h.2.2]; exact hs.tl, by rw [h.2.2]; exact hs.tt⟩
theorem cutD_takeN (ds : List PyData) (j : Nat) : cutD ds none (some (j : Int)) = ds.take j := by
  unfold cutD
  rw [HT.sIx_none, HT.sIx_nat]
  simp
theorem cutD_but (ds : List PyData) : cutD ds none (some (-1)) = ds.take (ds.length - 1) := by
  unfold cutD HT.sIx
  simp
  omega
theorem eqv_nil (l : List (List Nat)) : PyData.eqv (.list (l.map dO)) (.list []) = l.isEmpty := by
  cases l with
  | nil => simp [PyData.eqv, PyData.eqvAll]
  | cons a b => simp [PyData.eqv, PyData.eqvAll]
theorem isMat_good {s t : Sheet} (l : List Nat) : isMatB s t l = decide (l ∈ goods s t) := by
  unfold isMatB goods
  by_cases h1 : l.Perm (List.range s.n)
  · rw [List.isPerm_iff.mpr h1, Bool.true_and]
    by_cases h2 : renS s l = t
    · have e2 : l ∈ (ordM s.n).filter fun p => decide (renS s p = t) := List.mem_filter.mpr ⟨(ordM_mem _ _).mpr h1, by simp [h2]⟩
      rw [decide_eq_true h2, decide_eq_true e2]
    · have e3 : ¬ l ∈ (ordM s.n).filter fun p => decide (renS s p = t) := fun h => h2 (by simpa using (List.mem_filter.mp h).2)
      rw [decide_eq_false h2, decide_eq_false e3]
  · rw [decide_eq_false fun h => h1 ((ordM_mem _ _).mp (List.mem_filter.mp h).1)]
    cases e : l.isPerm (List.range s.n) with
    | false => rfl
    | true => exact absurd (List.isPerm_iff.mp e) h1
/-- what is asked of is_matching -/
abbrev Th := Bool × List Nat
def dT (x : Th) : PyData := dTh x.1 x.2
def things (N : Nat) (G : List (List Nat)) : List Th := ((((ordM N).take 8).map fun o => (true, o)) ++ ((G.take 2).map fun o => (true, o))) ++ ((G.take 1).map fun o => (false, o))
theorem ordM_head {N : Nat} : ∃ o r, ordM N = o :: r ∧ IsP N o := by
  have h : List.range N ∈ ordM N := (ordM_mem N _).mpr (List.Perm.refl _)
  cases e : ordM N with
  | nil => rw [e] at h; cases h
  | cons o r => exact ⟨o, r, rfl, (ordM_mem N o).mp (by rw [e]; exact List.mem_cons_self)⟩
theorem good_isP {s t : Sheet} {l : List Nat} (h : l ∈ goods s t) : IsP s.n l := (ordM_mem _ _).mp (List.mem_filter.mp h).1
theorem things_len {N : Nat} {s t : Sheet} (hn : s.n = N) : ∀ x ∈ things N (goods s t), x.2.length = N := fun x hx => by
  unfold things at hx
  rcases List.mem_append.mp hx with hx | hx
  · rcases List.mem_append.mp hx with hx | hx
    · obtain ⟨o, ho, rfl⟩ := List.mem_map.mp hx
      exact ((ordM_mem N o).mp (List.mem_of_mem_take ho)).len
    · obtain ⟨o, ho, rfl⟩ := List.mem_map.mp hx
      rw [← hn]
      exact (good_isP (List.mem_of_mem_take ho)).len
  · obtain ⟨o, ho, rfl⟩ := List.mem_map.mp hx
    rw [← hn]
    exact (good_isP (List.mem_of_mem_take ho)).len
theorem things_num (N : Nat) (G : List (List Nat)) : (things N G).length ≤ 11 := by
  unfold things
  simp only [List.length_append, List.length_map, List.length_take]
  omega
section
variable {P : Program} {w : World} {K : PySem.W.Frag} {mg : Str → Option Value} {base : Heap}
def spRight (K : PySem.W.Frag) : Sp := spU K (fun _ : Unit => []) (fun _ => True) (fun _ => 200) (fun _ d => d = .bool true)
theorem ok__law_right (D : Df K mg "_law_right" s__law_right ["_law_urn"]) (B : Blt mg) (c__law_take : Cal P w K mg base 1 "_law_take" ["_law_urn", "_law_low_so"] (spTake K)) (c__law_few : Cal P w K mg base 3 "_law_few" ["_law_urn", "_law_parts_so", "_law_many_so"] (spFew K))
    (c__law_told_named : Cal P w K mg base 1 "_law_told_named" ["_law_sheet_so", "_law_order_so"] (spNamed K)) (c__law_order : Cal P w K mg base 2 "_law_order" ["_law_urn", "_law_many_so"] (spOrder K)) (c__law_changed : Cal P w K mg base 3 "_law_changed" ["_law_urn", "_law_sheet_so", "_law_many_so"] (spChanged K))
    (c__law_orders : Cal P w K mg base 1 "_law_orders" ["_law_many_so"] (spOrders K)) (c_matching : Cal P w K mg base 103 "matching" ["sheet", "other"] (spMatch K)) (c_renamed : Cal P w K mg base 7 "renamed" ["sheet", "order"] (spRenamed K))
    (c_is_matching : Cal P w K mg base 8 "is_matching" ["sheet", "other", "thing"] (spIsM K)) (c__law_same : Cal P w K mg base 3 "_law_same" ["_law_near", "_law_goal"] (spSame K 3)) :
    Cal P w K mg base 104 "_law_right" ["_law_urn"] (spRight K) := by
  refine cal_of D fun f fd F => fn_u F sc__law_right (fun a _ => rfl) (by decide) fun cdv A outer s H E hr => ⟨_, (pss_cons (ps_par (i := 1) (j := 2) (by rfl) sc__law_right.nd rfl rfl (by decide) rfl rfl (pa_cons (xe_add K pe_int (pe_cal c__law_take hr (by omega) rfl (pa_cons (pv 0) (pa_cons pe_int pa_nil)))) (pa_cons (xe_add K pe_int (pe_cal c__law_take hr (by omega) rfl (pa_cons (pv 0) (pa_cons pe_int pa_nil)))) pa_nil)) (by rfl))
        (pss_cons (ps_set (i := 3) sc__law_right.nd rfl (by first | exact Or.inl rfl | exact Or.inr rfl) (pe_cal c__law_few hr (by omega) rfl (pa_cons (pv 0) (pa_cons (pv 1) (pa_cons (pv 2) pa_nil)))))
        (pss_cons (ps_set (i := 4) sc__law_right.nd rfl (by first | exact Or.inl rfl | exact Or.inr rfl) (pe_cal c__law_told_named hr (by omega) rfl (pa_cons (pv 3) (pa_cons (pe_cal c__law_order hr (by omega) rfl (pa_cons (pv 0) (pa_cons (pv 2) pa_nil))) pa_nil))))
        (pss_cons (ps_if (xt_eq K hr (pe_cal c__law_take hr (by omega) rfl (pa_cons (pv 0) (pa_cons pe_int pa_nil))) pe_int) (pss_one (ps_set (i := 4) sc__law_right.nd rfl (by first | exact Or.inl rfl | exact Or.inr rfl) (pe_cal c__law_changed hr (by omega) rfl (pa_cons (pv 0) (pa_cons (pv 4) (pa_cons (pv 2) pa_nil)))))) pss_nil)
        (pss_cons (ps_set (i := 5) sc__law_right.nd rfl (by first | exact Or.inl rfl | exact Or.inr rfl) (pe_cal c__law_orders hr (by omega) rfl (pa_cons (pv 2) pa_nil)))
        (pss_cons (ps_set (i := 6) sc__law_right.nd rfl (by first | exact Or.inl rfl | exact Or.inr rfl) (pe_lc (own := [("_law_own", 10)]) rfl sc__law_right.nd (xi_seq K (pv 5)) (blkOk_by (by rfl)) (fun _ _ _ _ _ => (pg_name (i := 10) sc__law_right.nd rfl (by first | exact Or.inl rfl | exact Or.inr rfl))) (fun _ _ _ _ _ => (pts_one (xt_eq K hr (pe_cal c__law_told_named hr (by omega) rfl (pa_cons (pv 3) (pa_cons (pv 10) pa_nil))) (pv 4)))) (fun _ _ _ _ _ => (pv 10))))
        (pss_cons (ps_set (i := 7) sc__law_right.nd rfl (by first | exact Or.inl rfl | exact Or.inr rfl) (pe_cal c_matching hr (by omega) rfl (pa_cons (pv 3) (pa_cons (pv 4) pa_nil))))
        (pss_cons (ps_if (PW.pt (pw_and (xt_eq K hr (pv 6) (pe_lst pa_nil)) (pw_and1 (pt_cmpR op_notN' (pv 7) pe_non (nomark _))))) (pss_one (ps_ret pe_bl)) pss_nil)
        (pss_cons (ps_if (xt_ne K hr (pv 6) (pe_lst pa_nil)) (pss_one (ps_if (PW.pt (pw_or (xt_nin K hr (pv 7) (pv 6)) (pw_or (pt_not (pt_val (xe_isi K B (pa_cons (pv 7) (pa_cons (xe_ty (x := "tuple") (T := "tuple") (by decide +kernel) B.b_tuple) pa_nil))))) (pw_or1 (xt_ne K hr (pe_cal c_renamed hr (by omega) rfl (pa_cons (pv 3) (pa_cons (pv 7) pa_nil))) (pv 4)))))) (pss_one (ps_ret pe_bl)) pss_nil)) pss_nil)
        (pss_cons (ps_set (i := 8) sc__law_right.nd rfl (by first | exact Or.inl rfl | exact Or.inr rfl) (xe_add K (xe_add K (xe_sl K (pv 5) po_none (po_some pe_int)) (xe_sl K (pv 6) po_none (po_some pe_int))) (pe_lc (own := [("_law_own", 10)]) rfl sc__law_right.nd (xi_seq K (xe_sl K (pv 6) po_none (po_some pe_int))) (blkOk_by (by rfl)) (fun _ _ _ _ _ => (pg_name (i := 10) sc__law_right.nd rfl (by first | exact Or.inl rfl | exact Or.inr rfl))) (fun _ _ _ _ _ => pts_nil) (fun _ _ _ _ _ => (xe_list K B (pa_cons (pv 10) pa_nil))))))
        (pss_cons (ps_set (i := 8) sc__law_right.nd rfl (by first | exact Or.inl rfl | exact Or.inr rfl) (xe_add K (pv 8) (pe_lst (pa_cons (xe_sl K (xe_ix K (pv 5) pe_int) po_none (po_some (pe_un un_neg pe_int))) (pa_cons (xe_add K (xe_ix K (pv 5) pe_int) (pe_tup (pa_cons pe_int pa_nil))) pa_nil)))))
        (pss_cons (ps_setLc (i := 9) (own := [("_law_own", 10)]) rfl sc__law_right.nd rfl rfl (sw_true rfl rfl rfl (by rfl)) (xi_seq K (pv 8)) (blkOk_by (by rfl)) (fun _ _ _ _ _ => (pg_name (i := 10) sc__law_right.nd rfl (by first | exact Or.inl rfl | exact Or.inr rfl))) (fun _ _ _ _ _ => pts_nil) (fun _ _ _ _ _ => (pe_cal c_is_matching hr (by omega) rfl (pa_cons (pv 3) (pa_cons (pv 4) (pa_cons (pv 10) pa_nil))))))
        (pss_one (ps_ret (pe_cal c__law_same hr (by omega) rfl (pa_cons (pv 9) (pa_cons (pe_lc (own := [("_law_own", 10)]) rfl sc__law_right.nd (xi_seq K (pv 8)) (blkOk_by (by rfl)) (fun _ _ _ _ _ => (pg_name (i := 10) sc__law_right.nd rfl (by first | exact Or.inl rfl | exact Or.inr rfl))) (fun _ _ _ _ _ => pts_nil) (fun _ _ _ _ _ => (pe_and (xe_isi K B (pa_cons (pv 10) (pa_cons (xe_ty (x := "tuple") (T := "tuple") (by decide +kernel) B.b_tuple) pa_nil))) (pe_one (xe_in K hr (pv 10) (pv 6)))))) pa_nil))))))))))))))))), fun _ n u ds _ ok hk => ?_⟩
  refine r_seq (M := fun z => ∃ (p N : Nat) (es : List PyData), 1 ≤ p ∧ p ≤ 2 ∧ 1 ≤ N ∧ N ≤ 4 ∧ UrnOk (n + 2) es ∧ z = [SD.cel u es, .dat (.int (p : Int)), .dat (.int (N : Int)), .no, .no, .no, .no, .no, .no, .no, .no])
    (r_parU (i := 1) (j := 2) (k1 := 1) (k2 := 1) (eu_add1 (n := 2) (fun _ _ => ed_int) (eu_call 2 (fun _ _ => ea_cons ed_int ea_nil) ⟨by decide, by decide⟩)) (eu_add1 (n := 4) (fun _ _ => ed_int) (eu_call 4 (fun _ _ => ea_cons ed_int ea_nil) ⟨by decide, by decide⟩)) ok (by omega) fun d1 d2 es h1 h2 ok1 => ?_) ?_
  · obtain ⟨r1, rfl, a1, a2⟩ := h1
    obtain ⟨r2, rfl, b1, b2⟩ := h2
    refine ⟨(1 + r1).toNat, (1 + r2).toNat, es, by omega, by omega, by omega, by omega, ok1, ?_⟩
    have e1 : (((1 + r1).toNat : Nat) : Int) = 1 + r1 := by omega
    have e2 : (((1 + r2).toNat : Nat) : Int) = 1 + r2 := by omega
    rw [e1, e2]
    rfl
  rintro ρ1 ⟨p, N, es, p0, p1, N0, N1, ok1, rfl⟩
  refine r_seq (M := fun z => ∃ (s : Sheet) (es : List PyData), Few p N s ∧ UrnOk (n + 2 + 100) es ∧ z = [SD.cel u es, .dat (.int (p : Int)), .dat (.int (N : Int)), .dat (dS s), .no, .no, .no, .no, .no, .no, .no])
    (r_setU (i := 3) (k := 100) (eu_call (p, N) (fun _ _ => ea_cons (ed_var rfl) (ea_cons (ed_var rfl) ea_nil)) ⟨p0, p1, N0, N1⟩) ok1 (by omega) fun d es hd ok2 => ?_) ?_
  · obtain ⟨s, rfl, hs⟩ := hd
    exact ⟨s, es, hs, ok2, rfl⟩
  rintro ρ1 ⟨s, es2, hs, ok2, rfl⟩
  have sn : s.n = N := hs.shp.nn p0
  have ss := hs.shp.small p0 p1 N1
  refine r_seq (M := fun z => ∃ (o : List Nat) (es : List PyData), IsP N o ∧ UrnOk (n + 2 + 100 + 4) es ∧ z = [SD.cel u es, .dat (.int (p : Int)), .dat (.int (N : Int)), .dat (dS s), .dat (dS (renS s o)), .no, .no, .no, .no, .no, .no])
    (r_setU (i := 4) (k := 4) (eu_cost (k := N) (eu_call2 (P2 := fun e => ∃ o, IsP N o ∧ e = dS (renS s o)) (fun _ _ => ed_var (d := dS s) rfl) (eu_call N (fun _ _ => ea_cons (ed_var rfl) ea_nil) (by omega)) fun d hd => ?_) N1) ok2 (by omega) fun d es hd ok3 => ?_) ?_
  · obtain ⟨o, rfl, ho⟩ := hd
    exact ⟨(s, o), rfl, ⟨ss.wf, by have := ho.len; show o.length ≤ 100; omega, by show ∀ k ∈ o, k < s.n; rw [sn]; exact ho.lt⟩, fun e he => ⟨o, ho, he⟩⟩
  · obtain ⟨o, ho, rfl⟩ := hd
    exact ⟨o, es, ho, ok3, rfl⟩
  rintro ρ1 ⟨o, es3, ho, ok3, rfl⟩
  have hfr := few_ren hs ho
  have hrt : (renS s o).tells.length = s.tells.length := List.length_map _
  refine r_seq (M := fun z => ∃ (t : Sheet) (es : List PyData), Shp p N t ∧ t.tells.length = s.tells.length ∧ UrnOk (n + 200) es ∧ z = [SD.cel u es, .dat (.int (p : Int)), .dat (.int (N : Int)), .dat (dS s), .dat (dS t), .no, .no, .no, .no, .no, .no])
    (r_ifU (k := 1) (etu_eq0 (eu_mono (eu_call 3 (fun _ _ => ea_cons ed_int ea_nil) ⟨by decide, by decide⟩) fun d ⟨r, e, _⟩ => ⟨r, e⟩)) ok3 (by omega) (fun es4 ok4 => ?_) fun es4 ok4 => r_next ⟨_, es4, hfr.shp, hrt, ok4.mono (by omega), rfl⟩) ?_
  · refine r_setU (i := 4) (k := 2) (eu_call (renS s o, N) (fun _ _ => ea_cons (ed_var rfl) (ea_cons (ed_var rfl) ea_nil)) ⟨by rw [hfr.ml]; exact hfr, by rw [hfr.ml]; exact p0, by rw [hfr.ml]; exact p1, N0, N1⟩) ok4 (by omega) fun d es5 hd ok5 => ?_
    obtain ⟨t, rfl, ht⟩ := hd
    exact ⟨t, es5, ht.shp hfr.shp, by rw [ht.2.2]; exact hrt, ok5.mono (by omega), rfl⟩
  rintro ρ1 ⟨t, es4, hst, htl, ok4, rfl⟩
  have tn : t.n = N := hst.nn p0
  have AL := alike_of hs.shp hst p0 p1 N1 htl
  refine r_then (r_set (d := dOs (ordM N)) (ed_of (ep_call N (ea_cons (ed_var rfl) ea_nil) N1) fun _ h => h) rfl) ?_
  have hol : (ordM N).length ≤ 24 := ordM_le N1
  have hgd : goods s t = (ordM N).filter fun o => decide (renS s o = t) := by unfold goods; rw [sn]
  have hgl : (goods s t).length ≤ 24 := by rw [hgd]; exact Nat.le_trans (List.length_filter_le _ _) hol
  refine r_then (r_set (d := dOs (goods s t)) (ed_l (el_lcFE (l := ordM N) (enc := dO) (p := fun o => decide (renS s o = t)) (r := dO) (ei_list (ed_var rfl)) rfl (by omega) (by decide) (fun o ho => ⟨_, eg_name 10, et_cmp (ed_eq (ed_of (ep_call (s, o) (ea_cons (ed_var rfl) (ea_cons (ed_var rfl) ea_nil)) ⟨ss.wf, by have := ((ordM_mem N o).mp ho).len; show o.length ≤ 100; omega, by show ∀ k ∈ o, k < s.n; rw [sn]; exact ((ordM_mem N o).mp ho).lt⟩) fun _ h => h) (ed_var rfl) ((sh_S _).ok (by decide)) ((sh_S _).ok (by decide)) (eqe_S _ _)), fun _ => ed_var rfl⟩) (by rw [hgd]))) rfl) ?_
  refine r_then (r_set (d := dOpt (matchM s t)) (ed_of (ep_call (s, t) (ea_cons (ed_var rfl) (ea_cons (ed_var rfl) ea_nil)) (pre_of AL)) fun _ h => h) rfl) ?_
  have shG : SeqAt.shaped (dOs (goods s t)) = true := (sh_mapL sh_O _).ok (by decide)
  have sh0 : SeqAt.shaped (.list []) = true := by decide
  refine r_guard (b := false) (et_is (et_and (a := (goods s t).isEmpty) (b := !isNo (dOpt (matchM s t))) (et_cmp (ed_eq (ed_var rfl) (ed_l (el_lst ea_nil (by decide))) shG sh0 (eqv_nil _))) fun _ => et_cmp (ed_notN (ed_var rfl))) ?_) (fun h => nomatch h) fun _ => ?_
  · rcases match_cases AL with ⟨q, h1, h2⟩ | ⟨h1, h2⟩
    · cases e : goods s t with
      | nil => rw [e] at h2; cases h2
      | cons a b => rfl
    · rw [h1, h2]
      rfl
  refine r_then (r_if (b := !(goods s t).isEmpty) (et_cmp (ed_ne (ed_var rfl) (ed_l (el_lst ea_nil (by decide))) shG sh0 (by rw [← eqv_nil]; rfl))) (fun hb => ?_) fun _ => r_next rfl) ?_
  · rcases match_cases AL with ⟨q, h1, h2⟩ | ⟨h1, h2⟩
    · have hq := good_isP h2
      have hv : ∀ {ρ : Ro}, ρ[7]? = some (.dat (dOpt (matchM s t))) → EvD K (tVar 7) ρ (dO q) := fun h => ed_is (ed_var h) (by rw [h1]; rfl)
      have hre : renS s q = t := of_decide_eq_true (List.mem_filter.mp h2).2
      exact r_if (b := false) (et_or (a := false) (b := false) (et_cmp (ed_notIn (P := fun d => d = dO q) (ds := (goods s t).map dO) (ep_of (hv rfl) rfl) (ed_var rfl) (.inl rfl) shG fun c hc => by
          subst hc
          exact ⟨(sh_O q).ok (by decide), by rw [any_O, decide_eq_true h2]; rfl⟩)) fun _ => et_or (a := false) (b := false) (et_not (b := true) (et_val (ed_isi (s := "tuple") (hv rfl) rfl (by decide +kernel)))) fun _ =>
          et_cmp (ed_ne (ed_of (ep_call (s, q) (ea_cons (ed_var rfl) (ea_cons (hv rfl) ea_nil)) ⟨ss.wf, hq⟩) fun _ h => h) (ed_var rfl) ((sh_S _).ok (by decide)) ((sh_S _).ok (by decide)) (by rw [eqe_S, decide_eq_true hre]; rfl))) (fun h => nomatch h) fun _ => r_next rfl
    · rw [h2] at hb
      cases hb
  have htn := things_num N (goods s t)
  refine r_then (r_set (d := .list ((things N (goods s t)).map dT)) (ed_l (el_is (el_add (ds := ((ordM N).take 8).map dO ++ ((goods s t).take 2).map dO) (es := ((goods s t).take 1).map dC) (ed_l (el_add (ed_l (el_is (el_sl (ds := (ordM N).map dO) (lo := none) (hi := some 8) (ed_var rfl) eo_none (eo_some ed_int)) ((cutD_takeN _ 8).trans List.map_take.symm))) (ed_l (el_is (el_sl (ds := (goods s t).map dO) (lo := none) (hi := some 2) (ed_var rfl) eo_none (eo_some ed_int)) ((cutD_takeN _ 2).trans List.map_take.symm))) ?_))
    (ed_l (el_lcE (l := (goods s t).take 1) (enc := dO) (r := dC) (ei_list (ed_l (el_is (el_sl (ds := (goods s t).map dO) (lo := none) (hi := some 1) (ed_var rfl) eo_none (eo_some ed_int)) ((cutD_takeN _ 1).trans List.map_take.symm)))) rfl (by rw [List.length_take]; omega) (by decide) (fun o ho => ⟨_, eg_name 10, ed_l (el_list (ed_var rfl) (.inl rfl))⟩) rfl)) ?_) ?_)) rfl) ?_
  · simp only [List.length_map, List.length_take]; omega
  · simp only [List.length_append, List.length_map, List.length_take]; omega
  · unfold things
    rw [List.map_append, List.map_append, List.map_map, List.map_map, List.map_map]
    rfl
  obtain ⟨o0, r0, e0, i0⟩ := ordM_head (N := N)
  have l0 := i0.len
  have e0' : (ordM N).map dO = dO o0 :: r0.map dO := by rw [e0]; rfl
  refine r_then (r_set (d := .list ((things N (goods s t) ++ [(true, o0.take (N - 1)), (true, o0 ++ [0])]).map dT)) (ed_l (el_is (el_add (ds := (things N (goods s t)).map dT) (es := [dO (o0.take (N - 1)), dO (o0 ++ [0])]) (ed_var rfl) (ed_l (el_lst (ea_cons (ed_is (ed_slT (ds := o0.map dNt) (lo := none) (hi := some (-1)) (ed_ixL (j := 0) (ds := (ordM N).map dO) (ed_var rfl) ed_int (by rw [e0']; rfl)) eo_none (eo_some (ed_neg ed_int))) ?_) (ea_cons (ed_is (ed_addT (ds := o0.map dNt) (es := [dNt 0]) (ed_ixL (j := 0) (ds := (ordM N).map dO) (ed_var rfl) ed_int (by rw [e0']; rfl)) (ed_t1 ed_int) ?_) ?_) ea_nil)) (by show 2 ≤ 1000; decide))) ?_) ?_)) rfl) ?_
  · rw [cutD_but, List.length_map, l0, ← List.map_take]
    rfl
  · rw [List.length_map, l0]
    show N + 1 ≤ 1000
    omega
  · unfold dO
    rw [List.map_append]
    rfl
  · rw [List.length_map]
    show _ + 2 ≤ 1000
    omega
  · rw [List.map_append]
    rfl
  have hll : ∀ x ∈ things N (goods s t) ++ [(true, o0.take (N - 1)), (true, o0 ++ [0])], x.2.length ≤ 100 := fun x hx => by
    rcases List.mem_append.mp hx with hx | hx
    · rw [things_len sn x hx]; omega
    · simp only [List.mem_cons, List.not_mem_nil, or_false] at hx
      rcases hx with rfl | rfl
      · simp only [List.length_take]; omega
      · simp only [List.length_append, List.length_cons, List.length_nil]; omega
  have hln : (things N (goods s t) ++ [(true, o0.take (N - 1)), (true, o0 ++ [0])]).length ≤ 1000 := by
    rw [List.length_append]
    show _ + 2 ≤ 1000
    omega
  generalize things N (goods s t) ++ [(true, o0.take (N - 1)), (true, o0 ++ [0])] = xs at hll hln ⊢
  refine r_then (r_set (d := .list ((xs.map fun x => x.1 && isMatB s t x.2).map .bool)) (ed_l (el_lcE (l := xs) (enc := dT) (r := fun x => .bool (x.1 && isMatB s t x.2)) (ei_list (ed_var rfl)) rfl hln (by decide) (fun x hx => ⟨_, eg_name 10, ed_of (ep_call (ImIn.mk s t x.1 x.2) (ea_cons (ed_var rfl) (ea_cons (ed_var rfl) (ea_cons (ed_var rfl) ea_nil))) ⟨ss.wf, AL.st.wf, hll x hx⟩) fun _ h => h⟩) (by rw [List.map_map]; rfl))) rfl) ?_
  refine r_ret (ed_of (ep_call (.list ((xs.map fun x => x.1 && isMatB s t x.2).map .bool)) (ea_cons (ed_var rfl) (ea_cons (ed_l (el_lcE (l := xs) (enc := dT) (r := fun x => .bool (x.1 && isMatB s t x.2)) (ei_list (ed_var rfl)) rfl hln (by decide) (fun x hx => ⟨_, eg_name 10, ?_⟩) (by rw [List.map_map]; rfl))) ea_nil)) (sok_bools _ (by rw [List.length_map]; exact hln))) fun _ h => h) ⟨rfl, es4, _, rfl, ok4⟩
  obtain ⟨tup, l⟩ := x
  rw [isMat_good]
  cases tup with
  | false => exact ed_and (a := false) (b := decide (l ∈ goods s t)) (ed_isi (s := "list") (ed_var (d := dC l) rfl) rfl (by decide +kernel)) fun h => nomatch h
  | true => exact ed_and (a := true) (b := decide (l ∈ goods s t)) (ed_isi (s := "tuple") (ed_var (d := dO l) rfl) rfl (by decide +kernel)) fun _ => ed_in (P := fun d => d = dO l) (ds := (goods s t).map dO) (ep_of (ed_var rfl) rfl) (ed_var rfl) (.inl rfl) shG fun c hc => by subst hc; exact ⟨(sh_O l).ok (by decide), any_O _ _⟩
def spLaw (K : PySem.W.Frag) : Sp := spT K (fun ns : List Int => [.list (ns.map .int)]) (fun ns => ns.length ≤ 63) (fun _ d => d = .bool true)
theorem ok_law {f : Addr} {fd : FuncData} (F : Fun K "law" "law" s_law f fd) (c__law_by_hand_right : Cal P w K mg base 104 "_law_by_hand_right" [] (spHand K)) (c__law_right : Cal P w K mg base 104 "_law_right" ["_law_urn"] (spRight K)) (c__law_box : Cal P w K mg base 1 "_law_box" ["_law_script", "_law_k"] (spBox K))
    (c__law_cells : Cal P w K mg base 1 "_law_cells" ["_law_script", "_law_roof_so"] (spCells K)) : FnOk P w K mg base CX0 105 f fd ["_law_script"] (spLaw K) := by
  refine fn_t F sc_law (fun a _ => rfl) (by decide) fun cdv A outer s H E hr => ⟨_, (pss_one (ps_ret (pe_and (pe_cal0 c__law_by_hand_right hr (by omega) rfl) (pe_one (pe_cal c__law_right hr (by omega) rfl (pa_cons (pe_cal c__law_box hr (by omega) rfl (pa_cons (pe_cal c__law_cells hr (by omega) rfl (pa_cons (pv 0) (pa_cons pe_int pa_nil))) (pa_cons pe_int pa_nil))) pa_nil)))))), fun ns hn => ?_⟩
  exact r_ret (d := .bool true) (ed_and (a := true) (b := true) (ed_of (ep_call () ea_nil True.intro) fun _ h => h) fun _ => ed_of (ep_new (n := 0) (cellV ns) () (ea_cons (ed_of (ep_call ns (ea_cons (ed_var rfl) (ea_cons ed_int ea_nil)) hn) fun _ h => h) (ea_cons ed_int ea_nil)) True.intro rfl True.intro (fun _ h => h) (by decide)) fun _ h => h) rfl
end
end My
namespace My
open PySem PySem.Spec PyProof.Rows L2
section
variable {K : PySem.W.Frag} {mg : Str → Option Value} {h : Heap}
theorem df_is_number (X : K.In h) (G : h.Ns mainGlobals mg) {f : Addr} {od an : Option Addr} {sl : Array (Option Value)} {oc kV dc pm cd ct : Value}
    (a : PySem.W.nsIn K mainGlobals "is_number" = some (some (.ref f))) (l : K.lookup f = some ⟨oc, od, .func (PySem.W.fnOf "is_number" "is_number" (defArgs s_is_number) (defBody s_is_number) (defScope s_is_number) .none kV dc pm an cd ct), sl⟩) (c : PySem.W.codeIn K cd "is_number" = true) (k : PySem.W.keepIn K (.ref f) = true) : Df K mg "is_number" s_is_number ["thing"] := by
  have F := fun_mk (st := s_is_number) l c k
  exact ⟨f, _, F, PySem.W.mg_of X G a, F.binds (ps := ["thing"]) fun _ _ _ _ _ _ us hl => match us, hl with | [_], _ => rfl⟩
theorem df_tuple_of (X : K.In h) (G : h.Ns mainGlobals mg) {f : Addr} {od an : Option Addr} {sl : Array (Option Value)} {oc kV dc pm cd ct : Value}
    (a : PySem.W.nsIn K mainGlobals "tuple_of" = some (some (.ref f))) (l : K.lookup f = some ⟨oc, od, .func (PySem.W.fnOf "tuple_of" "tuple_of" (defArgs s_tuple_of) (defBody s_tuple_of) (defScope s_tuple_of) .none kV dc pm an cd ct), sl⟩) (c : PySem.W.codeIn K cd "tuple_of" = true) (k : PySem.W.keepIn K (.ref f) = true) : Df K mg "tuple_of" s_tuple_of ["thing"] := by
  have F := fun_mk (st := s_tuple_of) l c k
  exact ⟨f, _, F, PySem.W.mg_of X G a, F.binds (ps := ["thing"]) fun _ _ _ _ _ _ us hl => match us, hl with | [_], _ => rfl⟩
theorem df_has_one_tell (X : K.In h) (G : h.Ns mainGlobals mg) {f : Addr} {od an : Option Addr} {sl : Array (Option Value)} {oc kV dc pm cd ct : Value}
    (a : PySem.W.nsIn K mainGlobals "has_one_tell" = some (some (.ref f))) (l : K.lookup f = some ⟨oc, od, .func (PySem.W.fnOf "has_one_tell" "has_one_tell" (defArgs s_has_one_tell) (defBody s_has_one_tell) (defScope s_has_one_tell) .none kV dc pm an cd ct), sl⟩) (c : PySem.W.codeIn K cd "has_one_tell" = true) (k : PySem.W.keepIn K (.ref f) = true) : Df K mg "has_one_tell" s_has_one_tell ["sheet"] := by
  have F := fun_mk (st := s_has_one_tell) l c k
  exact ⟨f, _, F, PySem.W.mg_of X G a, F.binds (ps := ["sheet"]) fun _ _ _ _ _ _ us hl => match us, hl with | [_], _ => rfl⟩
theorem df_tells_of (X : K.In h) (G : h.Ns mainGlobals mg) {f : Addr} {od an : Option Addr} {sl : Array (Option Value)} {oc kV dc pm cd ct : Value}
    (a : PySem.W.nsIn K mainGlobals "tells_of" = some (some (.ref f))) (l : K.lookup f = some ⟨oc, od, .func (PySem.W.fnOf "tells_of" "tells_of" (defArgs s_tells_of) (defBody s_tells_of) (defScope s_tells_of) .none kV dc pm an cd ct), sl⟩) (c : PySem.W.codeIn K cd "tells_of" = true) (k : PySem.W.keepIn K (.ref f) = true) : Df K mg "tells_of" s_tells_of ["sheet"] := by
  have F := fun_mk (st := s_tells_of) l c k
  exact ⟨f, _, F, PySem.W.mg_of X G a, F.binds (ps := ["sheet"]) fun _ _ _ _ _ _ us hl => match us, hl with | [_], _ => rfl⟩
theorem df__like (X : K.In h) (G : h.Ns mainGlobals mg) {f : Addr} {od an : Option Addr} {sl : Array (Option Value)} {oc kV dc pm cd ct : Value}
    (a : PySem.W.nsIn K mainGlobals "_like" = some (some (.ref f))) (l : K.lookup f = some ⟨oc, od, .func (PySem.W.fnOf "_like" "_like" (defArgs s__like) (defBody s__like) (defScope s__like) .none kV dc pm an cd ct), sl⟩) (c : PySem.W.codeIn K cd "_like" = true) (k : PySem.W.keepIn K (.ref f) = true) : Df K mg "_like" s__like ["sheet", "matrices", "tells"] := by
  have F := fun_mk (st := s__like) l c k
  exact ⟨f, _, F, PySem.W.mg_of X G a, F.binds (ps := ["sheet", "matrices", "tells"]) fun _ _ _ _ _ _ us hl => match us, hl with | [_, _, _], _ => rfl⟩
theorem df__row_renamed (X : K.In h) (G : h.Ns mainGlobals mg) {f : Addr} {od an : Option Addr} {sl : Array (Option Value)} {oc kV dc pm cd ct : Value}
    (a : PySem.W.nsIn K mainGlobals "_row_renamed" = some (some (.ref f))) (l : K.lookup f = some ⟨oc, od, .func (PySem.W.fnOf "_row_renamed" "_row_renamed" (defArgs s__row_renamed) (defBody s__row_renamed) (defScope s__row_renamed) .none kV dc pm an cd ct), sl⟩) (c : PySem.W.codeIn K cd "_row_renamed" = true) (k : PySem.W.keepIn K (.ref f) = true) : Df K mg "_row_renamed" s__row_renamed ["row", "order"] := by
  have F := fun_mk (st := s__row_renamed) l c k
  exact ⟨f, _, F, PySem.W.mg_of X G a, F.binds (ps := ["row", "order"]) fun _ _ _ _ _ _ us hl => match us, hl with | [_, _], _ => rfl⟩
theorem df__renamed (X : K.In h) (G : h.Ns mainGlobals mg) {f : Addr} {od an : Option Addr} {sl : Array (Option Value)} {oc kV dc pm cd ct : Value}
    (a : PySem.W.nsIn K mainGlobals "_renamed" = some (some (.ref f))) (l : K.lookup f = some ⟨oc, od, .func (PySem.W.fnOf "_renamed" "_renamed" (defArgs s__renamed) (defBody s__renamed) (defScope s__renamed) .none kV dc pm an cd ct), sl⟩) (c : PySem.W.codeIn K cd "_renamed" = true) (k : PySem.W.keepIn K (.ref f) = true) : Df K mg "_renamed" s__renamed ["sheet", "order"] := by
  have F := fun_mk (st := s__renamed) l c k
  exact ⟨f, _, F, PySem.W.mg_of X G a, F.binds (ps := ["sheet", "order"]) fun _ _ _ _ _ _ us hl => match us, hl with | [_, _], _ => rfl⟩
theorem df_renamed (X : K.In h) (G : h.Ns mainGlobals mg) {f : Addr} {od an : Option Addr} {sl : Array (Option Value)} {oc kV dc pm cd ct : Value}
    (a : PySem.W.nsIn K mainGlobals "renamed" = some (some (.ref f))) (l : K.lookup f = some ⟨oc, od, .func (PySem.W.fnOf "renamed" "renamed" (defArgs s_renamed) (defBody s_renamed) (defScope s_renamed) .none kV dc pm an cd ct), sl⟩) (c : PySem.W.codeIn K cd "renamed" = true) (k : PySem.W.keepIn K (.ref f) = true) : Df K mg "renamed" s_renamed ["sheet", "order"] := by
  have F := fun_mk (st := s_renamed) l c k
  exact ⟨f, _, F, PySem.W.mg_of X G a, F.binds (ps := ["sheet", "order"]) fun _ _ _ _ _ _ us hl => match us, hl with | [_, _], _ => rfl⟩
theorem df_stages_of (X : K.In h) (G : h.Ns mainGlobals mg) {f : Addr} {od an : Option Addr} {sl : Array (Option Value)} {oc kV dc pm cd ct : Value}
    (a : PySem.W.nsIn K mainGlobals "stages_of" = some (some (.ref f))) (l : K.lookup f = some ⟨oc, od, .func (PySem.W.fnOf "stages_of" "stages_of" (defArgs s_stages_of) (defBody s_stages_of) (defScope s_stages_of) .none kV dc pm an cd ct), sl⟩) (c : PySem.W.codeIn K cd "stages_of" = true) (k : PySem.W.keepIn K (.ref f) = true) : Df K mg "stages_of" s_stages_of ["sheet"] := by
  have F := fun_mk (st := s_stages_of) l c k
  exact ⟨f, _, F, PySem.W.mg_of X G a, F.binds (ps := ["sheet"]) fun _ _ _ _ _ _ us hl => match us, hl with | [_], _ => rfl⟩
theorem df_marks_of (X : K.In h) (G : h.Ns mainGlobals mg) {f : Addr} {od an : Option Addr} {sl : Array (Option Value)} {oc kV dc pm cd ct : Value}
    (a : PySem.W.nsIn K mainGlobals "marks_of" = some (some (.ref f))) (l : K.lookup f = some ⟨oc, od, .func (PySem.W.fnOf "marks_of" "marks_of" (defArgs s_marks_of) (defBody s_marks_of) (defScope s_marks_of) .none kV dc pm an cd ct), sl⟩) (c : PySem.W.codeIn K cd "marks_of" = true) (k : PySem.W.keepIn K (.ref f) = true) : Df K mg "marks_of" s_marks_of ["sheet", "stage"] := by
  have F := fun_mk (st := s_marks_of) l c k
  exact ⟨f, _, F, PySem.W.mg_of X G a, F.binds (ps := ["sheet", "stage"]) fun _ _ _ _ _ _ us hl => match us, hl with | [_, _], _ => rfl⟩
theorem df_fits_so_far (X : K.In h) (G : h.Ns mainGlobals mg) {f : Addr} {od an : Option Addr} {sl : Array (Option Value)} {oc kV dc pm cd ct : Value}
    (a : PySem.W.nsIn K mainGlobals "fits_so_far" = some (some (.ref f))) (l : K.lookup f = some ⟨oc, od, .func (PySem.W.fnOf "fits_so_far" "fits_so_far" (defArgs s_fits_so_far) (defBody s_fits_so_far) (defScope s_fits_so_far) .none kV dc pm an cd ct), sl⟩) (c : PySem.W.codeIn K cd "fits_so_far" = true) (k : PySem.W.keepIn K (.ref f) = true) : Df K mg "fits_so_far" s_fits_so_far ["sheet", "other", "order"] := by
  have F := fun_mk (st := s_fits_so_far) l c k
  exact ⟨f, _, F, PySem.W.mg_of X G a, F.binds (ps := ["sheet", "other", "order"]) fun _ _ _ _ _ _ us hl => match us, hl with | [_, _, _], _ => rfl⟩
theorem df_order_from (X : K.In h) (G : h.Ns mainGlobals mg) {f : Addr} {od an : Option Addr} {sl : Array (Option Value)} {oc kV dc pm cd ct : Value}
    (a : PySem.W.nsIn K mainGlobals "order_from" = some (some (.ref f))) (l : K.lookup f = some ⟨oc, od, .func (PySem.W.fnOf "order_from" "order_from" (defArgs s_order_from) (defBody s_order_from) (defScope s_order_from) .none kV dc pm an cd ct), sl⟩) (c : PySem.W.codeIn K cd "order_from" = true) (k : PySem.W.keepIn K (.ref f) = true) : Df K mg "order_from" s_order_from ["sheet", "other", "choices", "order"] := by
  have F := fun_mk (st := s_order_from) l c k
  exact ⟨f, _, F, PySem.W.mg_of X G a, F.binds (ps := ["sheet", "other", "choices", "order"]) fun _ _ _ _ _ _ us hl => match us, hl with | [_, _, _, _], _ => rfl⟩
theorem df_matching (X : K.In h) (G : h.Ns mainGlobals mg) {f : Addr} {od an : Option Addr} {sl : Array (Option Value)} {oc kV dc pm cd ct : Value}
    (a : PySem.W.nsIn K mainGlobals "matching" = some (some (.ref f))) (l : K.lookup f = some ⟨oc, od, .func (PySem.W.fnOf "matching" "matching" (defArgs s_matching) (defBody s_matching) (defScope s_matching) .none kV dc pm an cd ct), sl⟩) (c : PySem.W.codeIn K cd "matching" = true) (k : PySem.W.keepIn K (.ref f) = true) : Df K mg "matching" s_matching ["sheet", "other"] := by
  have F := fun_mk (st := s_matching) l c k
  exact ⟨f, _, F, PySem.W.mg_of X G a, F.binds (ps := ["sheet", "other"]) fun _ _ _ _ _ _ us hl => match us, hl with | [_, _], _ => rfl⟩
theorem df_is_matching (X : K.In h) (G : h.Ns mainGlobals mg) {f : Addr} {od an : Option Addr} {sl : Array (Option Value)} {oc kV dc pm cd ct : Value}
    (a : PySem.W.nsIn K mainGlobals "is_matching" = some (some (.ref f))) (l : K.lookup f = some ⟨oc, od, .func (PySem.W.fnOf "is_matching" "is_matching" (defArgs s_is_matching) (defBody s_is_matching) (defScope s_is_matching) .none kV dc pm an cd ct), sl⟩) (c : PySem.W.codeIn K cd "is_matching" = true) (k : PySem.W.keepIn K (.ref f) = true) : Df K mg "is_matching" s_is_matching ["sheet", "other", "thing"] := by
  have F := fun_mk (st := s_is_matching) l c k
  exact ⟨f, _, F, PySem.W.mg_of X G a, F.binds (ps := ["sheet", "other", "thing"]) fun _ _ _ _ _ _ us hl => match us, hl with | [_, _, _], _ => rfl⟩
theorem df__law_box (X : K.In h) (G : h.Ns mainGlobals mg) {f : Addr} {od an : Option Addr} {sl : Array (Option Value)} {oc kV dc pm cd ct : Value}
    (a : PySem.W.nsIn K mainGlobals "_law_box" = some (some (.ref f))) (l : K.lookup f = some ⟨oc, od, .func (PySem.W.fnOf "_law_box" "_law_box" (defArgs s__law_box) (defBody s__law_box) (defScope s__law_box) .none kV dc pm an cd ct), sl⟩) (c : PySem.W.codeIn K cd "_law_box" = true) (k : PySem.W.keepIn K (.ref f) = true) : Df K mg "_law_box" s__law_box ["_law_script", "_law_k"] := by
  have F := fun_mk (st := s__law_box) l c k
  exact ⟨f, _, F, PySem.W.mg_of X G a, F.binds (ps := ["_law_script", "_law_k"]) fun _ _ _ _ _ _ us hl => match us, hl with | [_, _], _ => rfl⟩
theorem df__law_take (X : K.In h) (G : h.Ns mainGlobals mg) {f : Addr} {od an : Option Addr} {sl : Array (Option Value)} {oc kV dc pm cd ct : Value}
    (a : PySem.W.nsIn K mainGlobals "_law_take" = some (some (.ref f))) (l : K.lookup f = some ⟨oc, od, .func (PySem.W.fnOf "_law_take" "_law_take" (defArgs s__law_take) (defBody s__law_take) (defScope s__law_take) .none kV dc pm an cd ct), sl⟩) (c : PySem.W.codeIn K cd "_law_take" = true) (k : PySem.W.keepIn K (.ref f) = true) : Df K mg "_law_take" s__law_take ["_law_urn", "_law_low_so"] := by
  have F := fun_mk (st := s__law_take) l c k
  exact ⟨f, _, F, PySem.W.mg_of X G a, F.binds (ps := ["_law_urn", "_law_low_so"]) fun _ _ _ _ _ _ us hl => match us, hl with | [_, _], _ => rfl⟩
theorem df__law_cells (X : K.In h) (G : h.Ns mainGlobals mg) {f : Addr} {od an : Option Addr} {sl : Array (Option Value)} {oc kV dc pm cd ct : Value}
    (a : PySem.W.nsIn K mainGlobals "_law_cells" = some (some (.ref f))) (l : K.lookup f = some ⟨oc, od, .func (PySem.W.fnOf "_law_cells" "_law_cells" (defArgs s__law_cells) (defBody s__law_cells) (defScope s__law_cells) .none kV dc pm an cd ct), sl⟩) (c : PySem.W.codeIn K cd "_law_cells" = true) (k : PySem.W.keepIn K (.ref f) = true) : Df K mg "_law_cells" s__law_cells ["_law_script", "_law_roof_so"] := by
  have F := fun_mk (st := s__law_cells) l c k
  exact ⟨f, _, F, PySem.W.mg_of X G a, F.binds (ps := ["_law_script", "_law_roof_so"]) fun _ _ _ _ _ _ us hl => match us, hl with | [_, _], _ => rfl⟩
theorem df__law_of (X : K.In h) (G : h.Ns mainGlobals mg) {f : Addr} {od an : Option Addr} {sl : Array (Option Value)} {oc kV dc pm cd ct : Value}
    (a : PySem.W.nsIn K mainGlobals "_law_of" = some (some (.ref f))) (l : K.lookup f = some ⟨oc, od, .func (PySem.W.fnOf "_law_of" "_law_of" (defArgs s__law_of) (defBody s__law_of) (defScope s__law_of) .none kV dc pm an cd ct), sl⟩) (c : PySem.W.codeIn K cd "_law_of" = true) (k : PySem.W.keepIn K (.ref f) = true) : Df K mg "_law_of" s__law_of ["_law_urn", "_law_some_so"] := by
  have F := fun_mk (st := s__law_of) l c k
  exact ⟨f, _, F, PySem.W.mg_of X G a, F.binds (ps := ["_law_urn", "_law_some_so"]) fun _ _ _ _ _ _ us hl => match us, hl with | [_, _], _ => rfl⟩
theorem df__law_same (X : K.In h) (G : h.Ns mainGlobals mg) {f : Addr} {od an : Option Addr} {sl : Array (Option Value)} {oc kV dc pm cd ct : Value}
    (a : PySem.W.nsIn K mainGlobals "_law_same" = some (some (.ref f))) (l : K.lookup f = some ⟨oc, od, .func (PySem.W.fnOf "_law_same" "_law_same" (defArgs s__law_same) (defBody s__law_same) (defScope s__law_same) .none kV dc pm an cd ct), sl⟩) (c : PySem.W.codeIn K cd "_law_same" = true) (k : PySem.W.keepIn K (.ref f) = true) : Df K mg "_law_same" s__law_same ["_law_near", "_law_goal"] := by
  have F := fun_mk (st := s__law_same) l c k
  exact ⟨f, _, F, PySem.W.mg_of X G a, F.binds (ps := ["_law_near", "_law_goal"]) fun _ _ _ _ _ _ us hl => match us, hl with | [_, _], _ => rfl⟩
theorem df__law_low (X : K.In h) (G : h.Ns mainGlobals mg) {f : Addr} {od an : Option Addr} {sl : Array (Option Value)} {oc kV dc pm cd ct : Value}
    (a : PySem.W.nsIn K mainGlobals "_law_low" = some (some (.ref f))) (l : K.lookup f = some ⟨oc, od, .func (PySem.W.fnOf "_law_low" "_law_low" (defArgs s__law_low) (defBody s__law_low) (defScope s__law_low) .none kV dc pm an cd ct), sl⟩) (c : PySem.W.codeIn K cd "_law_low" = true) (k : PySem.W.keepIn K (.ref f) = true) : Df K mg "_law_low" s__law_low ["_law_high_so", "_law_low_so"] := by
  have F := fun_mk (st := s__law_low) l c k
  exact ⟨f, _, F, PySem.W.mg_of X G a, F.binds (ps := ["_law_high_so", "_law_low_so"]) fun _ _ _ _ _ _ us hl => match us, hl with | [_, _], _ => rfl⟩
theorem df__law_add (X : K.In h) (G : h.Ns mainGlobals mg) {f : Addr} {od an : Option Addr} {sl : Array (Option Value)} {oc kV dc pm cd ct : Value}
    (a : PySem.W.nsIn K mainGlobals "_law_add" = some (some (.ref f))) (l : K.lookup f = some ⟨oc, od, .func (PySem.W.fnOf "_law_add" "_law_add" (defArgs s__law_add) (defBody s__law_add) (defScope s__law_add) .none kV dc pm an cd ct), sl⟩) (c : PySem.W.codeIn K cd "_law_add" = true) (k : PySem.W.keepIn K (.ref f) = true) : Df K mg "_law_add" s__law_add ["_law_one_so", "_law_two_so"] := by
  have F := fun_mk (st := s__law_add) l c k
  exact ⟨f, _, F, PySem.W.mg_of X G a, F.binds (ps := ["_law_one_so", "_law_two_so"]) fun _ _ _ _ _ _ us hl => match us, hl with | [_, _], _ => rfl⟩
theorem df__law_order (X : K.In h) (G : h.Ns mainGlobals mg) {f : Addr} {od an : Option Addr} {sl : Array (Option Value)} {oc kV dc pm cd ct : Value}
    (a : PySem.W.nsIn K mainGlobals "_law_order" = some (some (.ref f))) (l : K.lookup f = some ⟨oc, od, .func (PySem.W.fnOf "_law_order" "_law_order" (defArgs s__law_order) (defBody s__law_order) (defScope s__law_order) .none kV dc pm an cd ct), sl⟩) (c : PySem.W.codeIn K cd "_law_order" = true) (k : PySem.W.keepIn K (.ref f) = true) : Df K mg "_law_order" s__law_order ["_law_urn", "_law_many_so"] := by
  have F := fun_mk (st := s__law_order) l c k
  exact ⟨f, _, F, PySem.W.mg_of X G a, F.binds (ps := ["_law_urn", "_law_many_so"]) fun _ _ _ _ _ _ us hl => match us, hl with | [_, _], _ => rfl⟩
theorem df__law_told_named (X : K.In h) (G : h.Ns mainGlobals mg) {f : Addr} {od an : Option Addr} {sl : Array (Option Value)} {oc kV dc pm cd ct : Value}
    (a : PySem.W.nsIn K mainGlobals "_law_told_named" = some (some (.ref f))) (l : K.lookup f = some ⟨oc, od, .func (PySem.W.fnOf "_law_told_named" "_law_told_named" (defArgs s__law_told_named) (defBody s__law_told_named) (defScope s__law_told_named) .none kV dc pm an cd ct), sl⟩) (c : PySem.W.codeIn K cd "_law_told_named" = true) (k : PySem.W.keepIn K (.ref f) = true) : Df K mg "_law_told_named" s__law_told_named ["_law_sheet_so", "_law_order_so"] := by
  have F := fun_mk (st := s__law_told_named) l c k
  exact ⟨f, _, F, PySem.W.mg_of X G a, F.binds (ps := ["_law_sheet_so", "_law_order_so"]) fun _ _ _ _ _ _ us hl => match us, hl with | [_, _], _ => rfl⟩
theorem df__law_orders (X : K.In h) (G : h.Ns mainGlobals mg) {f : Addr} {od an : Option Addr} {sl : Array (Option Value)} {oc kV dc pm cd ct : Value}
    (a : PySem.W.nsIn K mainGlobals "_law_orders" = some (some (.ref f))) (l : K.lookup f = some ⟨oc, od, .func (PySem.W.fnOf "_law_orders" "_law_orders" (defArgs s__law_orders) (defBody s__law_orders) (defScope s__law_orders) .none kV dc pm an cd ct), sl⟩) (c : PySem.W.codeIn K cd "_law_orders" = true) (k : PySem.W.keepIn K (.ref f) = true) : Df K mg "_law_orders" s__law_orders ["_law_many_so"] := by
  have F := fun_mk (st := s__law_orders) l c k
  exact ⟨f, _, F, PySem.W.mg_of X G a, F.binds (ps := ["_law_many_so"]) fun _ _ _ _ _ _ us hl => match us, hl with | [_], _ => rfl⟩
theorem df__law_few (X : K.In h) (G : h.Ns mainGlobals mg) {f : Addr} {od an : Option Addr} {sl : Array (Option Value)} {oc kV dc pm cd ct : Value}
    (a : PySem.W.nsIn K mainGlobals "_law_few" = some (some (.ref f))) (l : K.lookup f = some ⟨oc, od, .func (PySem.W.fnOf "_law_few" "_law_few" (defArgs s__law_few) (defBody s__law_few) (defScope s__law_few) .none kV dc pm an cd ct), sl⟩) (c : PySem.W.codeIn K cd "_law_few" = true) (k : PySem.W.keepIn K (.ref f) = true) : Df K mg "_law_few" s__law_few ["_law_urn", "_law_parts_so", "_law_many_so"] := by
  have F := fun_mk (st := s__law_few) l c k
  exact ⟨f, _, F, PySem.W.mg_of X G a, F.binds (ps := ["_law_urn", "_law_parts_so", "_law_many_so"]) fun _ _ _ _ _ _ us hl => match us, hl with | [_, _, _], _ => rfl⟩
theorem df__law_changed (X : K.In h) (G : h.Ns mainGlobals mg) {f : Addr} {od an : Option Addr} {sl : Array (Option Value)} {oc kV dc pm cd ct : Value}
    (a : PySem.W.nsIn K mainGlobals "_law_changed" = some (some (.ref f))) (l : K.lookup f = some ⟨oc, od, .func (PySem.W.fnOf "_law_changed" "_law_changed" (defArgs s__law_changed) (defBody s__law_changed) (defScope s__law_changed) .none kV dc pm an cd ct), sl⟩) (c : PySem.W.codeIn K cd "_law_changed" = true) (k : PySem.W.keepIn K (.ref f) = true) : Df K mg "_law_changed" s__law_changed ["_law_urn", "_law_sheet_so", "_law_many_so"] := by
  have F := fun_mk (st := s__law_changed) l c k
  exact ⟨f, _, F, PySem.W.mg_of X G a, F.binds (ps := ["_law_urn", "_law_sheet_so", "_law_many_so"]) fun _ _ _ _ _ _ us hl => match us, hl with | [_, _, _], _ => rfl⟩
theorem df__law_by_hand_right (X : K.In h) (G : h.Ns mainGlobals mg) {f : Addr} {od an : Option Addr} {sl : Array (Option Value)} {oc kV dc pm cd ct : Value}
    (a : PySem.W.nsIn K mainGlobals "_law_by_hand_right" = some (some (.ref f))) (l : K.lookup f = some ⟨oc, od, .func (PySem.W.fnOf "_law_by_hand_right" "_law_by_hand_right" (defArgs s__law_by_hand_right) (defBody s__law_by_hand_right) (defScope s__law_by_hand_right) .none kV dc pm an cd ct), sl⟩) (c : PySem.W.codeIn K cd "_law_by_hand_right" = true) (k : PySem.W.keepIn K (.ref f) = true) : Df K mg "_law_by_hand_right" s__law_by_hand_right [] := by
  have F := fun_mk (st := s__law_by_hand_right) l c k
  exact ⟨f, _, F, PySem.W.mg_of X G a, F.binds (ps := []) fun _ _ _ _ _ _ us hl => match us, hl with | [], _ => rfl⟩
theorem df__law_right (X : K.In h) (G : h.Ns mainGlobals mg) {f : Addr} {od an : Option Addr} {sl : Array (Option Value)} {oc kV dc pm cd ct : Value}
    (a : PySem.W.nsIn K mainGlobals "_law_right" = some (some (.ref f))) (l : K.lookup f = some ⟨oc, od, .func (PySem.W.fnOf "_law_right" "_law_right" (defArgs s__law_right) (defBody s__law_right) (defScope s__law_right) .none kV dc pm an cd ct), sl⟩) (c : PySem.W.codeIn K cd "_law_right" = true) (k : PySem.W.keepIn K (.ref f) = true) : Df K mg "_law_right" s__law_right ["_law_urn"] := by
  have F := fun_mk (st := s__law_right) l c k
  exact ⟨f, _, F, PySem.W.mg_of X G a, F.binds (ps := ["_law_urn"]) fun _ _ _ _ _ _ us hl => match us, hl with | [_], _ => rfl⟩
end
theorem all_mk {l : PySem.W.OpenLaw} {w : World} {K : PySem.W.Frag} {h : Heap} {mg : Str → Option Value} {fa f : Addr} (X : K.In h) (G : h.Ns mainGlobals mg) (hfa : mg "law" = some (.ref fa)) (B : Blt mg)
    (d_is_number : Df K mg "is_number" s_is_number ["thing"])
    (d_tuple_of : Df K mg "tuple_of" s_tuple_of ["thing"])
    (d_has_one_tell : Df K mg "has_one_tell" s_has_one_tell ["sheet"])
    (d_tells_of : Df K mg "tells_of" s_tells_of ["sheet"])
    (d__like : Df K mg "_like" s__like ["sheet", "matrices", "tells"])
    (d__row_renamed : Df K mg "_row_renamed" s__row_renamed ["row", "order"])
    (d__renamed : Df K mg "_renamed" s__renamed ["sheet", "order"])
    (d_renamed : Df K mg "renamed" s_renamed ["sheet", "order"])
    (d_stages_of : Df K mg "stages_of" s_stages_of ["sheet"])
    (d_marks_of : Df K mg "marks_of" s_marks_of ["sheet", "stage"])
    (d_fits_so_far : Df K mg "fits_so_far" s_fits_so_far ["sheet", "other", "order"])
    (d_order_from : Df K mg "order_from" s_order_from ["sheet", "other", "choices", "order"])
    (d_matching : Df K mg "matching" s_matching ["sheet", "other"])
    (d_is_matching : Df K mg "is_matching" s_is_matching ["sheet", "other", "thing"])
    (d__law_box : Df K mg "_law_box" s__law_box ["_law_script", "_law_k"])
    (d__law_take : Df K mg "_law_take" s__law_take ["_law_urn", "_law_low_so"])
    (d__law_cells : Df K mg "_law_cells" s__law_cells ["_law_script", "_law_roof_so"])
    (d__law_of : Df K mg "_law_of" s__law_of ["_law_urn", "_law_some_so"])
    (d__law_same : Df K mg "_law_same" s__law_same ["_law_near", "_law_goal"])
    (d__law_low : Df K mg "_law_low" s__law_low ["_law_high_so", "_law_low_so"])
    (d__law_add : Df K mg "_law_add" s__law_add ["_law_one_so", "_law_two_so"])
    (d__law_order : Df K mg "_law_order" s__law_order ["_law_urn", "_law_many_so"])
    (d__law_told_named : Df K mg "_law_told_named" s__law_told_named ["_law_sheet_so", "_law_order_so"])
    (d__law_orders : Df K mg "_law_orders" s__law_orders ["_law_many_so"])
    (d__law_few : Df K mg "_law_few" s__law_few ["_law_urn", "_law_parts_so", "_law_many_so"])
    (d__law_changed : Df K mg "_law_changed" s__law_changed ["_law_urn", "_law_sheet_so", "_law_many_so"])
    (d__law_by_hand_right : Df K mg "_law_by_hand_right" s__law_by_hand_right [])
    (d__law_right : Df K mg "_law_right" s__law_right ["_law_urn"])
    {od an : Option Addr} {sl : Array (Option Value)} {oc kV dc pm cd ct : Value}
    (a : PySem.W.nsIn K mainGlobals "law" = some (some (.ref f))) (lk : K.lookup f = some ⟨oc, od, .func (PySem.W.fnOf "law" "law" (defArgs s_law) (defBody s_law) (defScope s_law) .none kV dc pm an cd ct), sl⟩) (c : PySem.W.codeIn K cd "law" = true) (k : PySem.W.keepIn K (.ref f) = true) :
    ∃ fd : FuncData, (∀ (s : Shared) (v : Value), BindsTo s fd ⟨[v], []⟩ [("_law_script", v)]) ∧ ∀ base : Heap, K.In base → base.Ns mainGlobals mg → FnOk l.prog w K mg base CX0 105 fa fd ["_law_script"] (spLaw K) := by
  have e := hfa.symm.trans (PySem.W.mg_of X G a)
  cases e
  have F := fun_mk (st := s_law) lk c k
  refine ⟨PySem.W.fnOf "law" "law" (defArgs s_law) (defBody s_law) (defScope s_law) .none kV dc pm an cd ct, fun s v => .of_eq rfl, fun base _ _ => ?_⟩
  have c_is_number := ok_is_number (P := l.prog) (w := w) (base := base) d_is_number B
  have c_tuple_of := ok_tuple_of (P := l.prog) (w := w) (base := base) d_tuple_of B 6
  have c_has_one_tell := ok_has_one_tell (P := l.prog) (w := w) (base := base) d_has_one_tell B c_is_number
  have c_tells_of := ok_tells_of (P := l.prog) (w := w) (base := base) d_tells_of B c_has_one_tell
  have c__like := ok__like (P := l.prog) (w := w) (base := base) d__like B c_has_one_tell
  have c__row_renamed := ok__row_renamed (P := l.prog) (w := w) (base := base) d__row_renamed B
  have c__renamed := ok__renamed (P := l.prog) (w := w) (base := base) d__renamed B c__row_renamed c_tells_of c__like
  have c_renamed := ok_renamed (P := l.prog) (w := w) (base := base) d_renamed B c_tuple_of c__renamed
  have c_stages_of := ok_stages_of (P := l.prog) (w := w) (base := base) d_stages_of B
  have c_marks_of := ok_marks_of (P := l.prog) (w := w) (base := base) d_marks_of B
  have c_fits_so_far := ok_fits_so_far (P := l.prog) (w := w) (base := base) d_fits_so_far B
  have c_order_from := ok_order_from (P := l.prog) (w := w) (base := base) d_order_from B c_fits_so_far 101
  have c_matching := ok_matching (P := l.prog) (w := w) (base := base) d_matching B c_tuple_of c_stages_of c_marks_of c_order_from
  have c_is_matching := ok_is_matching (P := l.prog) (w := w) (base := base) d_is_matching B c_is_number c_tuple_of c_stages_of c_renamed
  have c__law_box := ok__law_box (P := l.prog) (w := w) (base := base) d__law_box B
  have c__law_take := ok__law_take (P := l.prog) (w := w) (base := base) d__law_take B
  have c__law_cells := ok__law_cells (P := l.prog) (w := w) (base := base) d__law_cells B
  have c__law_of := ok__law_of (P := l.prog) (w := w) (base := base) d__law_of B c__law_take
  have c__law_same := ok__law_same (P := l.prog) (w := w) (base := base) d__law_same B 3
  have c__law_low := ok__law_low (P := l.prog) (w := w) (base := base) d__law_low B
  have c__law_add := ok__law_add (P := l.prog) (w := w) (base := base) d__law_add B c__law_low
  have c__law_order := ok__law_order (P := l.prog) (w := w) (base := base) d__law_order B c__law_take
  have c__law_told_named := ok__law_told_named (P := l.prog) (w := w) (base := base) d__law_told_named B
  have c__law_orders := ok__law_orders (P := l.prog) (w := w) (base := base) d__law_orders B
  have c__law_few := ok__law_few (P := l.prog) (w := w) (base := base) d__law_few B c__law_take c__law_of
  have c__law_changed := ok__law_changed (P := l.prog) (w := w) (base := base) d__law_changed B c__law_take c__law_add
  have c__law_by_hand_right := ok__law_by_hand_right (P := l.prog) (w := w) (base := base) d__law_by_hand_right B c_matching c_is_matching c__law_same
  have c__law_right := ok__law_right (P := l.prog) (w := w) (base := base) d__law_right B c__law_take c__law_few c__law_told_named c__law_order c__law_changed c__law_orders c_matching c_renamed c_is_matching c__law_same
  exact ok_law F c__law_by_hand_right c__law_right c__law_box c__law_cells
theorem sp_of {K : PySem.W.Frag} {H : Hp} {a : Addr} {ns : List Int} (hl : ns.length ≤ 63) (hS : SqL K H a (ns.map V.int)) : spLaw K [.ref a] H (fun v _ => v = .bl true) fun _ _ _ => False :=
  ⟨ns, H, Evl.Ex.refl _, .cons (.lst hS (ints_dpa ns)) .nil, hl, fun v d G2 H2 hd _ hv => by
    subst hd
    exact dp_bl hv⟩
end My
open PySem PySem.W PyProof.Rows
set_option maxHeartbeats 0 in
theorem PySem.Challenge.cw_everychange_k64_whole_matchings_by_all_o_holds : PySem.Challenge.rw_everychange_k64_whole_matchings_by_all_o.Holds := by
  w_on; o_law; k_head; (case hw => w_witness2)
  k_fill
  refine L2.walk_of (l := PySem.Challenge.rw_everychange_k64_whole_matchings_by_all_o) (n := 63) (k := 105) (x := "_law_script") (CX := fun _ => L2.CX0) (sp := fun w => My.spLaw _) rfl (by decide) rfl ⟨rfl, by decide, by decide⟩ (fun w h Y => PySem.W.kIn_of Y) ?F (fun _ _ a ns hl _ hS => My.sp_of hl hS) (fun _ _ _ _ _ h => h)
  case F =>
    intro w mg fa h KX G hmg
    refine' My.all_mk KX G hmg ⟨PySem.W.mg_none_of KX G ?z0, PySem.W.mg_none_of KX G ?z1, PySem.W.mg_none_of KX G ?z2, PySem.W.mg_none_of KX G ?z3, PySem.W.mg_none_of KX G ?z4, PySem.W.mg_none_of KX G ?z5, PySem.W.mg_none_of KX G ?z6, PySem.W.mg_none_of KX G ?z7, PySem.W.mg_none_of KX G ?z8, PySem.W.mg_none_of KX G ?z9, PySem.W.mg_none_of KX G ?z10, PySem.W.mg_none_of KX G ?z11, PySem.W.mg_none_of KX G ?z12⟩ (My.df_is_number KX G ?a0 ?l0 ?c0 ?k0) (My.df_tuple_of KX G ?a1 ?l1 ?c1 ?k1) (My.df_has_one_tell KX G ?a2 ?l2 ?c2 ?k2) (My.df_tells_of KX G ?a3 ?l3 ?c3 ?k3) (My.df__like KX G ?a4 ?l4 ?c4 ?k4) (My.df__row_renamed KX G ?a5 ?l5 ?c5 ?k5) (My.df__renamed KX G ?a6 ?l6 ?c6 ?k6) (My.df_renamed KX G ?a7 ?l7 ?c7 ?k7) (My.df_stages_of KX G ?a8 ?l8 ?c8 ?k8) (My.df_marks_of KX G ?a9 ?l9 ?c9 ?k9) (My.df_fits_so_far KX G ?a10 ?l10 ?c10 ?k10) (My.df_order_from KX G ?a11 ?l11 ?c11 ?k11) (My.df_matching KX G ?a12 ?l12 ?c12 ?k12) (My.df_is_matching KX G ?a13 ?l13 ?c13 ?k13) (My.df__law_box KX G ?a14 ?l14 ?c14 ?k14) (My.df__law_take KX G ?a15 ?l15 ?c15 ?k15) (My.df__law_cells KX G ?a16 ?l16 ?c16 ?k16) (My.df__law_of KX G ?a17 ?l17 ?c17 ?k17) (My.df__law_same KX G ?a18 ?l18 ?c18 ?k18) (My.df__law_low KX G ?a19 ?l19 ?c19 ?k19) (My.df__law_add KX G ?a20 ?l20 ?c20 ?k20) (My.df__law_order KX G ?a21 ?l21 ?c21 ?k21) (My.df__law_told_named KX G ?a22 ?l22 ?c22 ?k22) (My.df__law_orders KX G ?a23 ?l23 ?c23 ?k23) (My.df__law_few KX G ?a24 ?l24 ?c24 ?k24) (My.df__law_changed KX G ?a25 ?l25 ?c25 ?k25) (My.df__law_by_hand_right KX G ?a26 ?l26 ?c26 ?k26) (My.df__law_right KX G ?a27 ?l27 ?c27 ?k27) ?a28 ?l28 ?c28 ?k28
    (case a0 => k_is); (case l0 => k_is); (case c0 => k_is); (case k0 => k_is); (case a1 => k_is); (case l1 => k_is); (case c1 => k_is); (case k1 => k_is); (case a2 => k_is); (case l2 => k_is); (case c2 => k_is); (case k2 => k_is); (case a3 => k_is); (case l3 => k_is); (case c3 => k_is); (case k3 => k_is); (case a4 => k_is); (case l4 => k_is); (case c4 => k_is); (case k4 => k_is); (case a5 => k_is); (case l5 => k_is); (case c5 => k_is); (case k5 => k_is); (case a6 => k_is); (case l6 => k_is); (case c6 => k_is); (case k6 => k_is); (case a7 => k_is); (case l7 => k_is); (case c7 => k_is); (case k7 => k_is); (case a8 => k_is); (case l8 => k_is); (case c8 => k_is); (case k8 => k_is); (case a9 => k_is); (case l9 => k_is); (case c9 => k_is); (case k9 => k_is); (case a10 => k_is); (case l10 => k_is); (case c10 => k_is); (case k10 => k_is); (case a11 => k_is); (case l11 => k_is); (case c11 => k_is); (case k11 => k_is); (case a12 => k_is); (case l12 => k_is); (case c12 => k_is); (case k12 => k_is); (case a13 => k_is); (case l13 => k_is); (case c13 => k_is); (case k13 => k_is); (case a14 => k_is); (case l14 => k_is); (case c14 => k_is); (case k14 => k_is); (case a15 => k_is); (case l15 => k_is); (case c15 => k_is); (case k15 => k_is); (case a16 => k_is); (case l16 => k_is); (case c16 => k_is); (case k16 => k_is); (case a17 => k_is); (case l17 => k_is); (case c17 => k_is); (case k17 => k_is); (case a18 => k_is); (case l18 => k_is); (case c18 => k_is); (case k18 => k_is); (case a19 => k_is); (case l19 => k_is); (case c19 => k_is); (case k19 => k_is); (case a20 => k_is); (case l20 => k_is); (case c20 => k_is); (case k20 => k_is); (case a21 => k_is); (case l21 => k_is); (case c21 => k_is); (case k21 => k_is); (case a22 => k_is); (case l22 => k_is); (case c22 => k_is); (case k22 => k_is); (case a23 => k_is); (case l23 => k_is); (case c23 => k_is); (case k23 => k_is); (case a24 => k_is); (case l24 => k_is); (case c24 => k_is); (case k24 => k_is); (case a25 => k_is); (case l25 => k_is); (case c25 => k_is); (case k25 => k_is); (case a26 => k_is); (case l26 => k_is); (case c26 => k_is); (case k26 => k_is); (case a27 => k_is); (case l27 => k_is); (case c27 => k_is); (case k27 => k_is); (case a28 => k_is); (case l28 => k_is); (case c28 => k_is); (case k28 => k_is); (case z0 => k_is); (case z1 => k_is); (case z2 => k_is); (case z3 => k_is); (case z4 => k_is); (case z5 => k_is); (case z6 => k_is); (case z7 => k_is); (case z8 => k_is); (case z9 => k_is); (case z10 => k_is); (case z11 => k_is); (case z12 => k_is)
