import PyProof.Rows.All
import HandS.ForMost
import HandS.ForExc
import HandS.Walk
import HandS.SortInts
import HandS.SetFor
import HandS.Strs
import HandS.Deep
import HandS.TupAny
import KE.GoesEnum
import KE.KItemsList
import HandS.ExcCtx
import HandS.HotCalls
import HandS.Nested
import HandS.ExcIs
import HandS.EndTab
import HandS.WordsExc
import HandS.Style
import HandS.TupMul
import HandS.IsInst
import HandS.More
import HandS.Zip
import HandS.Conv
import HandS.SortRule
import HandS.ListItems
import HandS.TupLe
import HandS.TupSets
import KE.KDictSum
import KE.KCtx
import HandS.ExcOwn
import PyProof.ExcBaseAll.ValueError
import HandS.Remove
import HandS.RaiseMore
import HandS.Codes
import PySem.Challenge.RW_kneesaside_k14_whole_rows_kept_and_order
set_option Elab.async false
set_option linter.all false
set_option maxRecDepth 100000
set_option maxHeartbeats 4000000
/-! some rules that the hand layer lacks: of tuples -/
namespace PySem
open Sem (wp)
open AutoSeq1 (wpAny_loadPart')
theorem kn_meets_enum1 {v : Value} {o : Obj} {H : Heap → Prop} (B : Begins v o H) :
    Meets (Builtin.«enumerate.__new__» ⟨[.type "enumerate", v], []⟩) (fun _ R s => H s.heap ∧
      R (.ok (.ret (.ref (s.heap.push o).objs.size))) { s with heap := (s.heap.push o).push { cls := .type "enumerate", data := .fields #[.none, .bool false, .ref s.heap.objs.size, rawInt 0, .none, .none] } }) :=
  .of_wp fun prog w A R s h => by
    obtain ⟨hp, g, d, tk, os⟩ := s; obtain ⟨h1, h⟩ := h
    have hsub := sub_enumerate
    have q1 : ∀ {A' : Around} {E : Value → Shared → Prop} {Q : Value → Shared → Prop}, Q (.ref hp.objs.size) ⟨hp.push o, g, d, tk, os⟩ → wpAny (model prog w) A' (pyIter v) Q E ⟨hp, g, d, tk, os⟩ :=
      fun q => B.iter prog w _ _ ⟨hp, g, d, tk, os⟩ _ h1 q
    wp_walk using q1
    refine wpAny_stack_any fun st => wpAny_pure ?_
    split
    · rename_i c _ _ _ _ _
      cases (c == Value.type "enumerate")
      · wp_walk using q1
        exact ⟨_, rfl, h⟩
      · wp_walk using q1
        exact ⟨_, rfl, h⟩
    · wp_walk using q1
      exact ⟨_, rfl, h⟩
section
variable {prog : Program} {w : World} {A : Around} {E : Value → Shared → Prop} {s : Shared}
theorem kn_enum_begins {v : Value} {o : Obj} {H : Heap → Prop} {Q : Value → Shared → Prop} (B : Begins v o H) (h1 : H s.heap)
    (h : ∀ h', IsEnum h' (s.heap.objs.size + 1) s.heap.objs.size 0 .none → h'.get? s.heap.objs.size = some o → h'.objs.size = s.heap.objs.size + 2 →
      (∀ b o, s.heap.get? b = some o → h'.get? b = some o) → Q (.ref (s.heap.objs.size + 1)) { s with heap := h' }) :
    wpAny (model prog w) A (call (.type "enumerate") [v]) Q E s := by
  refine callType_new F.called_enumerate (by decide) (F.typeCall_enumerate_1 _) (F.newCall_enumerate_1 _) (fun obj => F.args_object_init_2 obj _) F.entry_enumerate_new
    (kn_meets_enum1 B) ⟨h1, ?_⟩
  have hz : (s.heap.push o).objs.size = s.heap.objs.size + 1 := Heap.size_push ..
  show _ ∧ _
  rw [hz]
  have he : IsEnum ((s.heap.push o).push { cls := .type "enumerate", data := .fields #[.none, .bool false, .ref s.heap.objs.size, rawInt 0, .none, .none] }) (s.heap.objs.size + 1) s.heap.objs.size 0 .none := by
    have := Heap.get?_push_size (s.heap.push o) (o := { cls := .type "enumerate", data := .fields #[.none, .bool false, .ref s.heap.objs.size, rawInt 0, .none, .none] }) rfl
    rw [hz] at this; exact this
  refine ⟨⟨_, he, rfl⟩, h _ he (Heap.get?_push_of_some _ (Heap.get?_push_size _ B.free)) (by rw [Heap.size_push, hz]) fun b o x => Heap.get?_push_of_some _ (Heap.get?_push_of_some _ x)⟩
end
end PySem

namespace SrtO
open PySem PySem.Spec PyProof.Rows
section
variable {prog : Program} {w : World} {A : Around} {E : Value → Shared → Prop} {s : Shared}
theorem kn_collect_tup {l : Addr} {vs : List Value} {Q : List Value → Shared → Prop} (hl : IsTup s.heap l vs.toArray)
    (h : Q vs { s with heap := (s.heap.push (seqObj "list" #[] 0)).update s.heap.objs.size (Obj.mapSeq (· ++ vs.toArray)) }) (hsz : vs.length ≤ sizeLine) :
    wpAny (model prog w) A (collect (.ref l)) Q E s := by
  obtain ⟨o, ho, hc, n, hd⟩ := id hl
  unfold collect
  refine wpAny_bind (wpAny_runValue (codeAny_builtin entry_proto_collect' ?_))
  show wpAny _ _ (do again (.builtin "list.__iadd__" ⟨[← newList [], .ref l], []⟩)) _ _ s
  refine wpAny_bind (wpAny_newList (wpAny_pure ⟨Code.quiet_builtin _ (by decide +kernel), codeAny_builtin entry_list_iadd' ?_⟩))
  show wpAny _ _ (Builtin.List.listExtendWith (.ref s.heap.objs.size) (.ref l) (.ref s.heap.objs.size)) _ _ { s with heap := s.heap.push (seqObj "list" #[] 0) }
  unfold Builtin.List.listExtendWith
  have ho' : (s.heap.push (seqObj "list" #[] 0)).get? l = some o := Heap.get?_push_of_some _ ho
  refine wpAny_bind (wpAny_typeOf (T := "tuple") ⟨o, ho', hc⟩ ?_)
  have ht : (Value.type "tuple" == Value.type "tuple") = true := by rfl
  rw [if_pos (by rw [ht]; simp)]
  refine wpAny_bind (listItems_at ho' hd ?_)
  refine wpAny_bind (listItems_at (xs := #[]) (n := 0) (Heap.get?_push_size _ rfl) rfl ?_)
  rw [if_neg (by simp)]
  refine wpAny_bind (listUpdate_at (xs := #[]) (n := 0) (Heap.get?_push_size _ rfl) rfl ?_ (Nat.zero_le _) (by show (#[] ++ vs.toArray).size ≤ sizeLine + 1; simp only [Array.size_append, List.size_toArray, List.length_nil]; omega))
  refine wpAny_pure ?_
  show wpAny (model prog w) A (do
      let o ← load s.heap.objs.size
      match o.data with
      | .seq xs _ => pure xs.toList
      | _ => unsupported "internal:collect") Q E { s with heap := (s.heap.push (seqObj "list" #[] 0)).update s.heap.objs.size (Obj.mapSeq (· ++ vs.toArray)) }
  refine wpAny_bind (wpAny_load (get?_update_seq (Heap.get?_push_size _ rfl) _) ?_)
  show wpAny _ _ (pure ((#[] : Array Value) ++ vs.toArray).toList) Q E _
  rw [show ((#[] : Array Value) ++ vs.toArray).toList = vs by simp]
  exact wpAny_pure h
theorem kn_sorted_tup {l : Addr} {vs : List Value} {ltv : Value → Value → Bool} {Q : Value → Shared → Prop} (O : Swo ltv) (hl : IsTup s.heap l vs.toArray) (hz : vs.length ≤ sizeLine)
    (hS : 2 ≤ vs.length → ∀ (h₁ : Heap) (a : Addr), h₁.get? a = some (seqObj "list" vs.toArray 0) → (∀ b o, s.heap.get? b = some o → b ≠ a ∧ h₁.get? b = some o) → SortableO prog w A.in1.in1 { s with heap := h₁ } a vs ltv)
    (h : ∀ out : List Value, Srtd ltv out → Stb ltv out vs → Q (.ref (s.heap.objs.size + 1)) { s with heap := sortedAll s.heap vs out.toArray }) :
    wpAny (model prog w) A (call (.builtin "sorted") [.ref l]) Q E s := by
  refine Calls.call_function_entry kind_sorted plain_sorted entry_sorted (args_sorted1 _) ?_
  unfold Builtin.«sorted»
  refine wpAny_bind (m := checkCount "sorted" 1 1 _) (wpAny_pure ?_)
  refine wpAny_bind (kn_collect_tup hl ?_ hz)
  refine wpAny_bind (wpAny_newList ?_ hz)
  have hsz : ((s.heap.push (seqObj "list" #[] 0)).update s.heap.objs.size (Obj.mapSeq (· ++ vs.toArray))).objs.size = s.heap.objs.size + 1 := by
    rw [Heap.size_update, size_push']
  have hoL : (((s.heap.push (seqObj "list" #[] 0)).update s.heap.objs.size (Obj.mapSeq (· ++ vs.toArray))).push (seqObj "list" vs.toArray 0)).get? (s.heap.objs.size + 1) = some (seqObj "list" vs.toArray 0) := by
    rw [← hsz]; exact Heap.get?_push_size _ rfl
  have keep : ∀ b o, s.heap.get? b = some o → b ≠ s.heap.objs.size + 1 ∧ (((s.heap.push (seqObj "list" #[] 0)).update s.heap.objs.size (Obj.mapSeq (· ++ vs.toArray))).push (seqObj "list" vs.toArray 0)).get? b = some o := fun b o q => by
    have hlt : b < s.heap.objs.size := Heap.lt_size q
    refine ⟨Nat.ne_of_lt (Nat.lt_succ_of_lt hlt), Heap.get?_push_of_some _ ?_⟩
    rw [Heap.get?_update_ne _ _ _ _ (Nat.ne_of_lt hlt)]
    exact Heap.get?_push_of_some _ q
  show wpAny _ _ _ _ _ { s with heap := ((s.heap.push (seqObj "list" #[] 0)).update s.heap.objs.size (Obj.mapSeq (· ++ vs.toArray))).push (seqObj "list" vs.toArray 0) }
  rw [hsz]
  refine wpAny_bind (wpAny_holding (wpAny_call_entry slot_list_sort ⟨_, hoL, rfl⟩ entry_list_sort (list_sort_ord O hoL hz (fun h2 => hS h2 _ _ hoL keep) fun out hs hb => ⟨_, rfl, ?_⟩) (args_list_sort _)))
  exact wpAny_pure ⟨_, rfl, h out hs hb⟩
end
end SrtO

namespace Kn
open PySem PySem.Spec L2
open PyProof.Rows hiding St
/-! ### sorted(t), t a tuple of ints -/
def rSortedTI (K : PySem.W.Frag) : List V → Hp → VK → Prop := fun vs H Q => ∃ (a : Addr) (ns : List Int), vs = [V.ref a] ∧ SqT K H a (ns.map V.int) ∧
  ∀ (ns' : List Int) (p : Addr), ns'.Perm ns → ns'.Pairwise (· ≤ ·) → H p = none → Q (.ref p) (upd H p (.lst (ns'.map V.int)))
section
variable {X : Cx}
theorem cr_sortedTI : CallR X (.builtin "sorted") (rSortedTI X.K) := by
  intro pins s σ H vs us Q I r h
  obtain ⟨a, ns, rfl, hs, q⟩ := h
  obtain ⟨its, rv, hl, hz⟩ := I.tuple hs
  rw [Vals.ref1 r]
  have hi := rv.ints
  refine SrtO.kn_sorted_tup SrtO.swo_int hl (by rw [← rv.length]; exact hz) (fun h2 h₁ a' _ _ => SrtO.ints_sortable hi h2) fun out h1 h2 => ?_
  obtain ⟨k1, k2, k3⟩ := SrtO.ints_out hi h1 h2
  obtain ⟨ep, he'⟩ := PyProof.Rows.sortedAll_at s.heap its out.toArray
  have hlen : ((out.map SrtO.iv).map V.int).length ≤ sizeLine := by
    rw [List.length_map, k2.length_eq]
    rw [List.length_map] at hz
    exact hz
  exact ⟨.ref _, upd H (s.heap.objs.size + 1) (.lst ((out.map SrtO.iv).map V.int)), I.laid (t' := s.toks) (fun _ _ => PyProof.Rows.sortedAll_old) (Nat.le_succ _) ⟨hlen, out, ep, vals_of_ints k1, he'⟩, rfl, q _ _ k2 k3 (I.hok.fresh (Nat.le_succ _))⟩
/-! ### t.index(x), t a tuple of flat things -/
def rIndexT (K : PySem.W.Frag) : V → List V → Hp → VK → Prop := fun x xs H Q => ∃ (a : Addr) (ys : List V) (y : V) (j : Nat) (z : V), x = V.ref a ∧ xs = [y] ∧ SqT K H a ys ∧ flatV y = true ∧ ys.all flatV = true ∧ ys[j]? = some z ∧ eqV z y = true ∧
  (∀ (m : Nat) (z' : V), m < j → ys[m]? = some z' → eqV z' y = false) ∧ Q (.int (j : Nat)) H
theorem mt_index_t : MtR X "tuple.index" (rIndexT X.K) := by
  intro pins s σ H x xs v us Q I rx rs h
  obtain ⟨p, ys, y, j, z, rfl, rfl, hq, fy, fys, hz, hzj, hno, q⟩ := h
  cases rx
  obtain ⟨u, rfl, ru⟩ := vals1 rs
  obtain ⟨its, r, pl, hsz⟩ := I.tuple hq
  obtain ⟨⟨cls, dd, dt, sl⟩, ho, hc, n, hd⟩ := pl
  simp only at hc hd
  subst hc
  subst hd
  have hl : its.toArray.size = ys.length := by rw [List.size_toArray, ← r.length]
  have hj : j < its.toArray.size := by rw [hl]; exact (List.getElem?_eq_some_iff.mp hz).1
  have at' : ∀ (m : Nat) (hm : m < its.toArray.size), ∃ y', ys[m]? = some y' ∧ RelV y' its.toArray[m] := fun m hm => by
    have hm' : m < ys.length := by rw [← hl]; exact hm
    obtain ⟨w, hw, rw'⟩ := r.get (i := m) (x := ys[m]) (by simp [hm'])
    refine ⟨ys[m], List.getElem?_eq_getElem hm', ?_⟩
    have e := (List.getElem?_eq_some_iff.mp hw).2
    rw [← e] at rw'
    simpa using rw'
  refine call_meets PySem.F.slot_tuple_index ⟨_, ho, rfl⟩ PySem.F.entry_tuple_index (PySem.F.args_tuple_index_2 _ _) (TI.tuple_indexAt p its.toArray n dd sl u (eqU y) j hj ?_ ?_)
    ⟨ho, fun w hw => mem_eqAt ru fy r fys w (by simpa using hw), ⟨.int (j : Nat), H, I.tok _, ⟨_, rfl⟩, q⟩⟩
  · obtain ⟨y', h1, h2⟩ := at' j hj
    rw [hz] at h1
    cases h1
    rw [eqU_of h2 (flat_at fys hz)]
    exact hzj
  · intro m hm hmj
    obtain ⟨y', h1, h2⟩ := at' m hm
    rw [eqU_of h2 (flat_at fys h1)]
    exact hno m y' hmj h1
end
/-! ### tuples whose object is known to have no dict of its own -/
abbrev Nw (H : Hp) (xs : List V) (Q : VK) : Prop := ∀ p o, H p = none → o.dict = none → Q (.ref p) (upd H p (.frz o (.tup xs)))
section
variable {X : Cx}
theorem laidF {pins : List (Addr × Obj)} {σ : St} {H : Hp} {s : Shared} {h' : Heap} {xs : List V} {its : List Value} {Q : VK} (I : Inv X pins σ H s) (r : Vals xs its) (hz : xs.length ≤ sizeLine) (kp : ∀ b o, s.heap.get? b = some o → h'.get? b = some o) {p : Addr} (hp : s.heap.objs.size ≤ p)
    (e : h'.get? p = some { cls := .type "tuple", data := .seq its.toArray }) (q : Nw H xs Q) : EP X pins σ Q (.ref p) { s with heap := h' } := by
  refine ⟨.ref p, _, I.laid (t' := s.toks) (o := .frz { cls := .type "tuple", data := .seq its.toArray } (.tup xs)) kp hp ?_, rfl, q p _ (I.hok.fresh hp) rfl⟩
  exact ⟨e, hz, its, r, ⟨_, e, rfl, _, rfl⟩⟩
def tTupF (t : TA) : TE := fun σ H Q => t σ H fun xs H1 => xs.length ≤ sizeLine ∧ Nw H1 xs Q
theorem pe_tupF {es : List Expr} {t : TA} {pos : Pos} {x1} (h : PA X es t) : PE X (.Tuple es x1 pos) (tTupF t) := by
  refine ⟨fun pins s σ H Q I hq => ?_⟩
  refine wpAny_Tuple_spliced (thn (h.run pos pins s σ H _ I hq) fun us s1 ⟨xs, H1, I1, r, z, q⟩ => ⟨by rw [← r.length]; exact z, ?_⟩)
  exact laidF I1 r z (fun b u e => Heap.get?_push_of_some _ e) (Nat.le_refl _) (Heap.get?_push_size _ rfl) q
def rCatF (K : PySem.W.Frag) : R2 := fun x y H Q => ∃ a b xs ys, x = .ref a ∧ y = .ref b ∧ SqT K H a xs ∧ SqT K H b ys ∧ xs.length + ys.length ≤ sizeLine ∧
  (xs = [] → Q (.ref b) H) ∧ (xs ≠ [] → ys = [] → Q (.ref a) H) ∧ (xs ≠ [] → ys ≠ [] → Nw H (xs ++ ys) Q)
theorem op_catF : OpR X (binaryOp .Add) (rCatF X.K) := by
  intro pins s σ H x y v u Q I rx ry h
  obtain ⟨a, b, xs, ys, rfl, rfl, ha, hb, hz, q0, q1, q2⟩ := h
  cases rx
  cases ry
  obtain ⟨its, r1, p1, _⟩ := I.tuple ha
  obtain ⟨its2, r2, p2, _⟩ := I.tuple hb
  by_cases hx : xs = []
  · subst hx
    cases r1
    exact cat_tup0 p1 p2 ⟨.ref b, H, I, rfl, q0 rfl⟩
  · refine HT.cat_tup p1 p2 (fun z => hx (r1.nil_iff.mp z)) (fun z => ⟨.ref a, H, I, rfl, q1 hx (r2.nil_iff.mp z)⟩) (fun z => ?_) (by rw [← r1.length, ← r2.length]; exact hz)
    exact laidF I (r1.append r2) (by rw [List.length_append]; exact hz) (fun b ob q => Heap.get?_push_of_some _ q) (Nat.le_refl _) (Heap.get?_push_size _ rfl) (q2 hx (fun w => z (r2.nil_iff.mpr w)))
def rSlF (K : PySem.W.Frag) : V → Option Int → Option Int → Hp → VK → Prop := fun x lo hi H Q => ∃ a xs, x = .ref a ∧ SqT K H a xs ∧
  (HT.sIx xs.length 0 lo = 0 ∧ HT.sIx xs.length xs.length hi = xs.length → Q (.ref a) H) ∧ (¬ (HT.sIx xs.length 0 lo = 0 ∧ HT.sIx xs.length xs.length hi = xs.length) → Nw H (cutV xs lo hi) Q)
theorem sl_tupF : SlR X (rSlF X.K) := by
  intro pins s σ H x v vl vu lo hi sl Q I rx hs pl pu h
  obtain ⟨a, xs, rfl, hx, q1, q2⟩ := h
  cases rx
  obtain ⟨its, r, ht, hz⟩ := I.tuple hx
  have hlen : its.toArray.size = xs.length := by rw [List.size_toArray]; exact r.length.symm
  refine ⟨"tuple", _, PyProof.Rows.slot_tuple_getitem.lookup, ht.typeIs, ?_⟩
  by_cases hw : HT.sIx xs.length 0 lo = 0 ∧ HT.sIx xs.length xs.length hi = xs.length
  · exact getItem_tuple_whole ht hs pl pu (by rw [hlen]; exact hw) ⟨.ref a, H, I, rfl, q1 hw⟩
  · refine HT.getItem_tuple_cut ht hs pl pu (by rw [hlen]; exact hw) ?_ (by rw [hlen]; exact hz)
    rw [hlen]
    exact laidF I ((r.drop (HT.sIx xs.length 0 lo)).take (HT.sIx xs.length xs.length hi - HT.sIx xs.length 0 lo)) (Nat.le_trans (cutV_length xs lo hi) hz) (fun b ob q => Heap.get?_push_of_some _ q) (Nat.le_refl _) (Heap.get?_push_size _ rfl) (q2 hw)
def rTupleF (K : PySem.W.Frag) : List V → Hp → VK → Prop := fun xs H Q => ∃ p ys, xs = [.ref p] ∧ ((SqL K H p ys ∧ Nw H ys Q) ∨ (SqT K H p ys ∧ Q (.ref p) H))
theorem call_tupleF : CallR X (.type "tuple") (rTupleF X.K) := by
  intro pins s σ H xs us Q I r h
  obtain ⟨p, ys, rfl, h⟩ := h
  obtain ⟨u, rfl, rx⟩ := vals1 r
  cases rx
  rcases h with ⟨hq, q⟩ | ⟨hq, q⟩
  · obtain ⟨its, r', pl, hz⟩ := I.list hq
    have hlen := r'.length
    refine call_tuple_list pl.isList (fun h' kp => ?_) (by simp only [List.size_toArray] <;> omega)
    have I1 : Inv X pins σ H { s with heap := h' } := I.kept (t' := s.toks) kp
    exact laidF I1 r' hz (fun b o e => Heap.get?_push_of_some _ e) (Nat.le_refl _) (Heap.get?_push_size _ rfl) q
  · obtain ⟨its, r', pl, hz⟩ := I.tuple hq
    exact call_tuple_same pl ⟨.ref p, H, I, rfl, q⟩
/-! ### xs.index(e), a list or such a tuple -/
def tIndexA (K : PySem.W.Frag) (to : TE) (t : TA) : TE := fun σ H Q => to σ H fun x H1 => ∃ a ys, x = V.ref a ∧
  ((H1 a = some (.lst ys) ∧ t σ H1 fun xs H2 => rIndex K x xs H2 Q) ∨ ((∃ o, H1 a = some (.frz o (.tup ys)) ∧ o.dict = none) ∧ t σ H1 fun xs H2 => rIndexT K x xs H2 Q))
theorem pe_indexA {o e : Expr} {es : List Expr} {to : TE} {t : TA} {apos cpos : Pos} (ho : PE X o to) (ha : PA X (e :: es) t)
    (hbase : attributeBase o "index" X.env (eval o X.env) = eval o X.env := by rfl)
    (hfew : ((backTo cpos (starEach (e :: es) X.env)).all (fun x => !x.1) && (backToKw cpos (keywordEach [] X.env)).all (fun x => x.1.isSome)
      && decide ((e :: es).length + ([] : List Keyword).length + (if ([] : List Keyword).isEmpty then 0 else 1) < 30)) = true := by rfl)
    (hline : (apos.endLine == cpos.line) = true := by rfl) (hs : starEach (e :: es) X.env = (false, eval e X.env) :: starEach es X.env := by rfl) (hplain : (backTo cpos (starEach es X.env)).any (·.1) = false := by rfl) :
    PE X (.Call (.Attribute o "index" apos) (e :: es) [] cpos) (tIndexA X.K to t) := by
  refine ⟨fun pins s σ H Q I h => ?_⟩
  refine wpAny_Call_method_late hbase hfew hline rfl (thn (ho.run pins s σ H _ I h) fun v s1 ⟨x, H1, I1, r1, ty⟩ => ?_)
  obtain ⟨a, ys, rfl, ty⟩ := ty
  cases r1
  rcases ty with ⟨h1, q1⟩ | ⟨⟨ob, h1, hd⟩, q1⟩
  · obtain ⟨its, _, pl, _⟩ := I1.list (SqL.of h1)
    refine ⟨"list", "list.index", F.plainAttrs_list, F.slot_list_index, F.type_list_index, pl.isList.typeIs, fun b e => ?_, ?_⟩
    · cases e
      obtain ⟨o, n, e, c, hd, _⟩ := pl
      exact ⟨o, e, hd⟩
    · have hA := ha.run cpos pins s1 σ H1 _ I1 q1
      rw [hs] at hA ⊢
      refine Calls.callWith_builtin (by show (false || (backTo cpos (starEach es X.env)).any (·.1)) = false; rw [hplain] <;> rfl) (Calls.evalArgs_plain ?_)
      exact thn hA fun us s2 ⟨vs, H2, I2, r2, q2⟩ => mt_index pins s2 σ H2 (.ref a) vs (.ref a) us Q I2 rfl r2 q2
  · obtain ⟨e1, hz, its, r, o2, e2, c2, _⟩ := I1.hok a _ h1
    refine ⟨"tuple", "tuple.index", F.plainAttrs_tuple, F.slot_tuple_index, F.type_tuple_index, ⟨o2, e2, c2⟩, fun b e => ?_, ?_⟩
    · cases e
      exact ⟨ob, e1, hd⟩
    · have hA := ha.run cpos pins s1 σ H1 _ I1 q1
      rw [hs] at hA ⊢
      refine Calls.callWith_builtin (by show (false || (backTo cpos (starEach es X.env)).any (·.1)) = false; rw [hplain] <;> rfl) (Calls.evalArgs_plain ?_)
      exact thn hA fun us s2 ⟨vs, H2, I2, r2, q2⟩ => mt_index_t pins s2 σ H2 (.ref a) vs (.ref a) us Q I2 rfl r2 q2
end

/-! ### enumerate of a tuple, of a list or a tuple -/
def Itet (K : PySem.W.Frag) (a : Addr) : It :=
  ⟨fun i H => ∃ (xs : List V) (x : V), SqT K H a xs ∧ xs[i]? = some x, fun i H v H' => ∃ T x, v = .ref T ∧ H T = none ∧ H' = upd H T (.tup [.int (i : Nat), x]) ∧ ∀ xs, SqT K H a xs → xs[i]? = some x, fun i H => ∃ xs : List V, SqT K H a xs ∧ xs.length ≤ i⟩
theorem turn_enumT {P : Program} {w : World} {K : PySem.W.Frag} {elts : List Expr} {kk : Nat} {tpos : Pos} (a e it : Addr) :
    Turn P w K (.Tuple elts kk tpos) (Itet K a) [e, it] e (fun i h => (∃ old, IsEnum h e it ((i : Nat) : Int) old) ∧ h.IsTupleIter it a i ∧ e ≠ it) where
  mem := by simp
  obj := fun i h st b hb => by
    obtain ⟨⟨old, he⟩, ⟨o, ho, hc, hd⟩, _⟩ := st
    have e' : b = e ∨ b = it := by simpa using hb
    rcases e' with z | z
    · rw [z]; exact ⟨_, he, fun v q => nomatch q⟩
    · rw [z]; exact ⟨o, ho, fun v q => by rw [hd] at q; cases q⟩
  keep := fun i h h' st k => let ⟨⟨old, he⟩, hi, hne⟩ := st; ⟨⟨old, k e (by simp) _ he⟩, hi.at fun o q => k it (by simp) o q, hne⟩
  item := by
    intro X hP hw hK hc i pins s σ H E I hf st hg
    subst hP hw hK
    obtain ⟨⟨old, he⟩, hit, hne⟩ := st
    obtain ⟨xs, x, hq, hx⟩ := hg
    obtain ⟨its, rv, p, hz⟩ := I.tuple hq
    obtain ⟨u, hu, ru⟩ := rv.get hx
    have hel : e < s.heap.objs.size := Heap.lt_size he
    have hil : it < s.heap.objs.size := by obtain ⟨_, q, _⟩ := hit; exact Heap.lt_size q
    have hei : a ≠ it := fun z => by
      obtain ⟨o1, q1, c1, _⟩ := p
      obtain ⟨o2, q2, c2, _⟩ := hit
      rw [z, q2] at q1
      cases q1
      rw [c1] at c2
      exact absurd (Value.type.inj c2) (by decide)
    have hae : a ≠ e := fun z => by
      obtain ⟨o1, q1, c1, _⟩ := p
      rw [z, he] at q1
      cases q1
      exact absurd (Value.type.inj c1) (by decide)
    have hlt : i < its.toArray.size := by
      have := (List.getElem?_eq_some_iff.mp hu).1
      simpa using this
    refine wpAny_pyNext_enum_itemD (D := Draws.tuple (A := X.A.in1) (I.ok.hd hc) it a hei its.toArray) he ⟨hit, show s.heap.IsTuple a its.toArray from p⟩ hlt hne (by simp; exact ⟨hne, Ne.symm hae⟩) fun x' h' tk px ho hit' hT hsz hk => ?_
    have ex : x' = u := by
      have q : its.toArray[i]? = some u := by simpa using hu
      rw [q] at px
      exact (Option.some.inj px).symm
    subst ex
    refine ⟨_, rfl, wpAny_letOwnedTupleGo_enum (s := { s with heap := h', toks := tk + 1 }) ho fun h'' he' sb => ?_⟩
    have hT2 : h''.get? s.heap.objs.size = some { cls := .type "tuple", data := .seq #[.int i tk, x'] } := (sb.2 _ (Nat.ne_of_gt hel)).trans hT
    have new : ObjOk X.prog X.w (upd H s.heap.objs.size (.tup [.int (i : Nat), x])) h'' s.heap.objs.size (.tup [.int (i : Nat), x]) :=
      ⟨by show 2 ≤ sizeLine; decide, [.int i tk, x'], .cons ⟨_, rfl⟩ (.cons ru .nil), ⟨_, hT2, rfl, _, rfl⟩⟩
    have I1 : Inv X pins σ (upd H s.heap.objs.size (.tup [.int (i : Nat), x])) { s with heap := h'', toks := tk + 1 } :=
      I.turnedNew (ch := [e, it]) (fun b ob hb q => (sb.2 b (fun z => hb (by simp [z]))).trans (hk b ob (fun z => hb (by simp [z])) (fun z => hb (by simp [z])) q)) hf (Nat.le_refl _) new
    refine ⟨.ref s.heap.objs.size, _, I1, rfl, ⟨_, x, rfl, I.hok.fresh (Nat.le_refl _), rfl, fun ys hy => by rw [I.tuple_inj hy hq]; exact hx⟩, ⟨⟨x', ?_⟩, hit'.1.at fun o q => (sb.2 it (Ne.symm hne)).trans q, hne⟩, fun b hb => ?_⟩
    · have e1 : ((i + 1 : Nat) : Int) = (i : Int) + 1 := by omega
      rw [e1]; exact he'
    · have hb' : b < s.heap.objs.size := by
        have e' : b = e ∨ b = it := by simpa using hb
        rcases e' with z | z
        · rw [z]; exact hel
        · rw [z]; exact hil
      rw [upd_ne (Nat.ne_of_lt hb')]
      exact (hf b hb).1
  done := by
    intro X hP hw hK hc i pins s σ H E I hf st hg
    subst hP hw hK
    obtain ⟨⟨old, he⟩, hit, hne⟩ := st
    obtain ⟨xs, hq, hx⟩ := hg
    obtain ⟨its, rv, p, hz⟩ := I.tuple hq
    obtain ⟨f0, f1, f2, f3, f4, f5⟩ := hf it (by simp)
    have hl := rv.length
    have hei : a ≠ it := fun z => by
      obtain ⟨o1, q1, c1, _⟩ := p
      obtain ⟨o2, q2, c2, _⟩ := hit
      rw [z, q2] at q1
      cases q1
      rw [c1] at c2
      exact absurd (Value.type.inj c2) (by decide)
    have hT : s.TypeIs (.ref e) "enumerate" := ⟨_, he, rfl⟩
    unfold pyNext
    refine wpAny_bind (wpAny_attempt (wpAny_callSpecial?_slot (name := Str.ofString "__next__") hT F.slot_enumerate_next
      (wpAny_call_entry F.slot_enumerate_next hT F.entry_enumerate_next ?_ (F.args_enumerate_next_1 _))))
    show wpAny _ _ (field (.ref e) 2 >>= _) _ _ _
    refine wpAny_bind (wpAny_field he rfl (x := .ref it) rfl ?_)
    refine wpAny_bind (wpAny_nextOf_tuple_end (I.ok.hd hc) hit (show s.heap.IsTuple a its.toArray from p) (by simp; omega) fun h' x he' hx' => ?_)
    obtain ⟨o, ho, hcc⟩ := hx'
    refine wpAny_bind (wpAny_isInstance (T := "StopIteration") (b := true) ⟨o, ho, hcc⟩ isSubtype_stop ?_)
    exact wpAny_pure ⟨rfl, I.turned (t' := s.toks) (fun b o hb q => he' b o hb q) f0 f1 f3 f4 f5⟩
  self := fun A i s Q E st h => let ⟨⟨_, he⟩, _⟩ := st; wpAny_pyIter_enum he h
theorem walk_enumT {K : PySem.W.Frag} {a : Addr} {xs : List V} : Walk (Itet K a) xs.length (fun H => SqT K H a xs) (YPair (fun i => some (.int (i : Nat))) (fun i => xs[i]?)) := by
  refine ⟨fun i _ hi q => ⟨xs, xs[i], q, by simp [hi]⟩, fun _ q => ⟨xs, q, Nat.le_refl _⟩, fun i H v H' _ q y => ?_⟩
  obtain ⟨T, x, h1, h2, h3, h4⟩ := y
  exact ⟨T, .int (i : Nat), x, h1, h2, h3, rfl, h4 xs q⟩
def iEnumA (K : PySem.W.Frag) (ta : TA) : TI := fun σ H R => ta σ H fun vs H1 => ∃ a xs, vs = [.ref a] ∧ ((SqL K H1 a xs ∧ R (Ite K a) H1) ∨ (SqT K H1 a xs ∧ R (Itet K a) H1))
theorem pi_enumA {X : Cx} {e : Expr} {ta : TA} {p pos tpos : Pos} {elts : List Expr} {kk : Nat} (hg : Gl X "enumerate") (hm : X.mg "enumerate" = none) (ha : PA X [e] ta) (hs : starEach [e] X.env = [(false, eval e X.env)] := by rfl) :
    PI X (.Tuple elts kk tpos) (.Call (.Name "enumerate" p) [e] [] pos) (iEnumA X.K ta) := by
  refine ⟨fun pins s σ H R I h => ?_⟩
  refine Call_ (ld_blt I hg hm boot_enumerate (PyProof.Rows.callWith_type1 (thn (ha.run pos pins s σ H _ I h) fun us s1 ⟨vs, H1, I1, r1, q1⟩ => ?_) hs rfl))
  obtain ⟨a, xs, ex, q1⟩ := q1
  subst ex
  cases r1 with
  | cons r rr =>
    cases rr
    cases r
    have fr : ∀ b ∈ [s1.heap.objs.size + 1, s1.heap.objs.size], FpOk X pins H1 b := fun b hb => by
      have e' : b = s1.heap.objs.size + 1 ∨ b = s1.heap.objs.size := by simpa using hb
      have hle : s1.heap.objs.size ≤ b := by
        rcases e' with z | z
        · rw [z]; exact Nat.le_add_right _ _
        · rw [z]; exact Nat.le_refl _
      exact I1.fpOk hle (I1.hok.fresh hle)
    rcases q1 with ⟨hq, q⟩ | ⟨hq, q⟩
    · obtain ⟨its, rv, p', hz⟩ := I1.list hq
      refine call_enumerate_list p'.isList fun h' he hit hsz hk => wpAny_pyIter_enum he ?_
      have I2 : Inv X pins σ H1 { s1 with heap := h' } := I1.kept (t' := s1.toks) hk
      exact ⟨s1.heap.objs.size + 1, [s1.heap.objs.size + 1, s1.heap.objs.size], _, _, H1, rfl, I2, turn_enum a (s1.heap.objs.size + 1) s1.heap.objs.size, ⟨⟨.none, he⟩, hit, Nat.succ_ne_self _⟩, fr, q⟩
    · obtain ⟨its, rv, p', hz⟩ := I1.tuple hq
      refine kn_enum_begins (begins_tuple a its.toArray) (show s1.heap.IsTuple a its.toArray from p') fun h' he hit hsz hk => wpAny_pyIter_enum he ?_
      have I2 : Inv X pins σ H1 { s1 with heap := h' } := I1.kept (t' := s1.toks) hk
      exact ⟨s1.heap.objs.size + 1, [s1.heap.objs.size + 1, s1.heap.objs.size], _, _, H1, rfl, I2, turn_enumT a (s1.heap.objs.size + 1) s1.heap.objs.size, ⟨⟨.none, he⟩, ⟨_, hit, rfl, rfl⟩, Nat.succ_ne_self _⟩, fr, q⟩
/-! ### len(set(t)), t a tuple of ints -/
def dedup : List Int → List Int
  | [] => []
  | x :: r => if x ∈ r then dedup r else x :: dedup r
theorem mem_dedup {x : Int} : ∀ {l : List Int}, x ∈ dedup l ↔ x ∈ l
  | [] => .rfl
  | y :: r => by
    unfold dedup
    have ih := mem_dedup (x := x) (l := r)
    split
    · rename_i h
      rw [ih, List.mem_cons]
      exact ⟨.inr, fun z => z.elim (fun e => e ▸ h) id⟩
    · rw [List.mem_cons, List.mem_cons, ih]
theorem dedup_nodup : ∀ l : List Int, (dedup l).Nodup
  | [] => .nil
  | y :: r => by
    unfold dedup
    split
    · exact dedup_nodup r
    · rename_i h
      exact List.nodup_cons.mpr ⟨fun z => h (mem_dedup.mp z), dedup_nodup r⟩
theorem dedup_id : ∀ {l : List Int}, l.Nodup → dedup l = l
  | [], _ => rfl
  | y :: r, h => by
    rw [List.nodup_cons] at h
    unfold dedup
    rw [if_neg h.1, dedup_id h.2]
theorem nodup_len : ∀ {l m : List Int}, l.Nodup → (∀ x ∈ l, x ∈ m) → l.length ≤ m.length
  | [], m, _, _ => Nat.zero_le _
  | x :: l, m, h, k => by
    rw [List.nodup_cons] at h
    have hx : x ∈ m := k x List.mem_cons_self
    have := nodup_len (l := l) (m := m.erase x) h.2 fun y hy => by
      have ne : y ≠ x := fun e => h.1 (e ▸ hy)
      exact (List.mem_erase_of_ne ne).mpr (k y (List.mem_cons_of_mem _ hy))
    rw [List.length_erase_of_mem hx] at this
    have hp : 0 < m.length := List.length_pos_of_mem hx
    rw [List.length_cons]
    omega
theorem dedup_len_lt : ∀ {l : List Int}, ¬ l.Nodup → (dedup l).length < l.length
  | [], h => absurd .nil h
  | y :: r, h => by
    unfold dedup
    by_cases hy : y ∈ r
    · rw [if_pos hy]
      have : (dedup r).length ≤ r.length := nodup_len (dedup_nodup r) fun x hx => mem_dedup.mp hx
      rw [List.length_cons]
      omega
    · rw [if_neg hy, List.length_cons, List.length_cons]
      exact Nat.succ_lt_succ (dedup_len_lt fun n => h (List.nodup_cons.mpr ⟨hy, n⟩))
def tLenSetT (K : PySem.W.Frag) (ta : TE) : TE := fun σ H Q => ta σ H fun x H1 => ∃ (l : Addr) (ns : List Int), x = .ref l ∧ SqT K H1 l (ns.map V.int) ∧ ns.length ≤ 4000 ∧ Q (.int ((dedup ns).length : Nat)) H1
theorem pe_lenSetT {X : Cx} {a : Expr} {ta : TE} {p p2 q pos : Pos} (hg : Gl X "len") (hm : X.mg "len" = none) (hg2 : Gl X "set") (hm2 : X.mg "set" = none) (ha : PE X a ta) (hc : X.calm = true := by rfl)
    (na : starEach [a] X.env = (false, eval a X.env) :: starEach [] X.env := by rfl) : PE X (.Call (.Name "len" p) [.Call (.Name "set" p2) [a] [] q] [] pos) (tLenSetT X.K ta) := by
  refine ⟨fun pins s σ H Q I h => ?_⟩
  refine Call_ (ld_blt I hg hm boot_len ?_)
  refine PyProof.Rows.callWith_builtin1 (PyProof.Rows.args_cons ?_ rfl) rfl rfl
  refine Call_ (ld_blt I hg2 hm2 boot_set ?_)
  refine PyProof.Rows.callWith_type1 (PyProof.Rows.args_cons (thn (ha.run pins s σ H _ I h) fun v s1 ⟨x, H1, I1, r1, q1⟩ => PyProof.Rows.args_nil ?_) na) na rfl
  obtain ⟨l, ns, rfl, hq, hl, q1⟩ := q1
  cases r1
  obtain ⟨its, r, pl, hz⟩ := I1.tuple hq
  refine call_set_tupI ns (I1.ok.hd hc) (show s1.heap.IsTuple l its.toArray from pl) (by simpa using r.ints) (by unfold scanBound; omega) fun h' tk c hS hcn hk => ?_
  refine PyProof.Rows.args_nil ?_
  obtain ⟨o, es, ep, t, ho, hex, hd, _, hnd, hmem, _, hf, hn, _⟩ := hS
  have I2 : Inv X pins σ H1 { s1 with heap := h', toks := tk } := I1.kept hk
  have ec : es.size = (dedup ns).length := by
    have e1 : (es.toList.map keyOf).length = es.size := by simp
    have m1 : ∀ x, x ∈ es.toList.map keyOf ↔ x ∈ ns := fun x => by rw [← hmem x]; exact decide_eq_true_iff
    have l1 := nodup_len hnd fun x hx => mem_dedup.mpr ((m1 x).mp hx)
    have l2 := nodup_len (dedup_nodup ns) fun x hx => (m1 x).mpr (mem_dedup.mp hx)
    omega
  refine call_len_set ho hex hd hf (by omega) ⟨.int (dedup ns).length, H1, I2.tok _, ⟨_, by rw [ec]⟩, q1⟩
end Kn
set_option Elab.async false
set_option linter.all false
set_option maxRecDepth 100000
set_option maxHeartbeats 4000000
/-! The data layer over the hand layer: plain data that a value stands for, what is frozen and what is owned, denotations. -/
namespace Kn
open PySem PySem.Spec L2
open PyProof.Rows hiding St

/-! ### exceptions whose context is told (HandS.ExcCtx) -/
theorem passN {X : Cx} : Passes (L2N.CX X.prog X.w) X E0 := fun _ _ _ _ _ _ _ h => by
  obtain ⟨_, _, _, _, _, _, _, _, _, _, _, _, z⟩ := h
  exact z.elim
theorem okN {P : Program} {w : World} {K : PySem.W.Frag} {mg : Str → Option Value} {base : Heap} {x qual : Str} {st : Stmt} {f : Addr} {fd : FuncData} {N ps : List Str} {k : Nat} {sp : Sp} (F : Fun K x qual st f fd) (S : FnScope N ps (defScope st)) (len : ∀ vs H Q E, sp vs H Q E → vs.length = ps.length)
    (hbody : ∀ (cdv : Value) (A : Around) (outer : List Env) (s : Shared) (H : Hp) (vs : List V) (Q : VK) (E : XK), Room k (A.deeper (envOfC qual (defScope st) s.heap.objs.size f cdv)) → sp vs H Q E →
      ∃ t, PSs (cxOf (L2N.CX P w) P w K mg base N qual (defScope st) f cdv A outer s H E) (defBody st) t ∧ t { nx := fun _ H' => Q .non H', rt := Q } (start N vs) H) : FnOk P w K mg base (L2N.CX P w) (k + 1) f fd ps sp := by
  obtain ⟨oc, od, kV, doc, pm, an, cdv, ct, osl, rfl, lk, hcd⟩ := F.ex
  exact fn_of lk hcd S len fun A outer s H vs Q E hr hsp => hbody cdv A outer s H vs Q E hr hsp

/-! ### data -/
theorem sqtF {K : PySem.W.Frag} {H : Hp} {a : Addr} {o : Obj} {xs : List V} (h : H a = some (.frz o (.tup xs))) : SqT K H a xs := .inl (.inr ⟨o, h⟩)
mutual
inductive Dq (H : Hp) : V → PyData → Prop
  | non : Dq H .non .none
  | bl (b : Bool) : Dq H (.bl b) (.bool b)
  | int (i : Int) : Dq H (.int i) (.int i)
  | str (x : Str) : Dq H (.str x) (.str x)
  | lst {a : Addr} {xs : List V} {ds : List PyData} : H a = some (.lst xs) → DqA H xs ds → Dq H (.ref a) (.list ds)
  | tup {a : Addr} {o : Obj} {xs : List V} {ds : List PyData} : H a = some (.frz o (.tup xs)) → o.dict = none → DqA H xs ds → Dq H (.ref a) (.tuple ds)
inductive DqA (H : Hp) : List V → List PyData → Prop
  | nil : DqA H [] []
  | cons {v : V} {vs : List V} {d : PyData} {ds : List PyData} : Dq H v d → DqA H vs ds → DqA H (v :: vs) (d :: ds)
end
mutual
theorem Dq.mono {H H' : Hp} (h : Same H H') : ∀ {v : V} {d : PyData}, Dq H v d → Dq H' v d
  | _, _, .non => .non
  | _, _, .bl b => .bl b
  | _, _, .int i => .int i
  | _, _, .str x => .str x
  | _, _, .lst e a => .lst (h _ _ e) (DqA.mono h a)
  | _, _, .tup e n a => .tup (h _ _ e) n (DqA.mono h a)
theorem DqA.mono {H H' : Hp} (h : Same H H') : ∀ {vs : List V} {ds : List PyData}, DqA H vs ds → DqA H' vs ds
  | _, _, .nil => .nil
  | _, _, .cons a r => .cons (Dq.mono h a) (DqA.mono h r)
end
mutual
theorem Dq.dp {K : PySem.W.Frag} {H : Hp} : ∀ {v : V} {d : PyData}, Dq H v d → Dp K H v d
  | _, _, .non => .non
  | _, _, .bl b => .bl b
  | _, _, .int i => .int i
  | _, _, .str x => .str x
  | _, _, .lst e a => .lst (SqL.of e) (DqA.dp a)
  | _, _, .tup e n a => .tup (sqtF e) (DqA.dp a)
theorem DqA.dp {K : PySem.W.Frag} {H : Hp} : ∀ {vs : List V} {ds : List PyData}, DqA H vs ds → DpAll K H vs ds
  | _, _, .nil => .nil
  | _, _, .cons a r => .cons (Dq.dp a) (DqA.dp r)
end
theorem DqA.len {H : Hp} : ∀ {vs : List V} {ds : List PyData}, DqA H vs ds → vs.length = ds.length
  | _, _, .nil => rfl
  | _, _, .cons _ r => congrArg (· + 1) (DqA.len r)
theorem DqA.get {H : Hp} : ∀ {vs : List V} {ds : List PyData} {i : Nat} {v : V}, DqA H vs ds → vs[i]? = some v → ∃ d, ds[i]? = some d ∧ Dq H v d
  | _, _, _, _, .nil, e => by simp at e
  | _, _, 0, _, .cons a r, e => by
    simp at e
    subst e
    exact ⟨_, rfl, a⟩
  | _, _, i + 1, v, .cons a r, e => by
    simp at e
    obtain ⟨d, h1, h2⟩ := DqA.get (i := i) (v := v) r e
    exact ⟨d, by simpa using h1, h2⟩
theorem DqA.get' {H : Hp} : ∀ {vs : List V} {ds : List PyData} {i : Nat} {d : PyData}, DqA H vs ds → ds[i]? = some d → ∃ v, vs[i]? = some v ∧ Dq H v d
  | _, _, _, _, .nil, e => by simp at e
  | _, _, 0, _, .cons a r, e => by
    simp at e
    subst e
    exact ⟨_, rfl, a⟩
  | _, _, i + 1, v, .cons a r, e => by
    simp at e
    obtain ⟨d, h1, h2⟩ := DqA.get' (i := i) r e
    exact ⟨d, by simpa using h1, h2⟩
theorem DqA.append {H : Hp} : ∀ {vs ws : List V} {ds es : List PyData}, DqA H vs ds → DqA H ws es → DqA H (vs ++ ws) (ds ++ es)
  | _, _, _, _, .nil, s => s
  | _, _, _, _, .cons a r, s => .cons a (DqA.append r s)
theorem DqA.take {H : Hp} : ∀ {vs : List V} {ds : List PyData} (n : Nat), DqA H vs ds → DqA H (vs.take n) (ds.take n)
  | _, _, 0, _ => by simpa using DqA.nil
  | _, _, _ + 1, .nil => by simpa using DqA.nil
  | _, _, n + 1, .cons a r => by simpa using DqA.cons a (DqA.take n r)
theorem DqA.drop {H : Hp} : ∀ {vs : List V} {ds : List PyData} (n : Nat), DqA H vs ds → DqA H (vs.drop n) (ds.drop n)
  | _, _, 0, h => by simpa using h
  | _, _, _ + 1, .nil => by simpa using DqA.nil
  | _, _, n + 1, .cons a r => by simpa using DqA.drop n r
theorem DqA.set {H : Hp} {v : V} {d : PyData} (h : Dq H v d) : ∀ {vs : List V} {ds : List PyData} (n : Nat), DqA H vs ds → DqA H (vs.set n v) (ds.set n d)
  | _, _, _, .nil => by simpa using DqA.nil
  | _, _, 0, .cons a r => by simpa using DqA.cons h r
  | _, _, n + 1, .cons a r => by simpa using DqA.cons a (DqA.set h n r)
theorem DqA.insertIdx {H : Hp} {v : V} {d : PyData} (h : Dq H v d) : ∀ {vs : List V} {ds : List PyData} (n : Nat), DqA H vs ds → DqA H (vs.insertIdx n v) (ds.insertIdx n d)
  | _, _, 0, r => by simpa using DqA.cons h r
  | _, _, n + 1, .nil => by simpa using DqA.nil
  | _, _, n + 1, .cons a r => by simpa using DqA.cons a (DqA.insertIdx h n r)
theorem DqA.eraseIdx {H : Hp} : ∀ {vs : List V} {ds : List PyData} (n : Nat), DqA H vs ds → DqA H (vs.eraseIdx n) (ds.eraseIdx n)
  | _, _, _, .nil => by simpa using DqA.nil
  | _, _, 0, .cons a r => by simpa using r
  | _, _, n + 1, .cons a r => by simpa using DqA.cons a (DqA.eraseIdx n r)
theorem DqA.reverse {H : Hp} : ∀ {vs : List V} {ds : List PyData}, DqA H vs ds → DqA H vs.reverse ds.reverse
  | _, _, .nil => by simpa using DqA.nil
  | _, _, .cons a r => by simpa using DqA.append (DqA.reverse r) (.cons a .nil)
abbrev nsD (ns : List Int) : List PyData := ns.map PyData.int
theorem DqA.ints_ (H : Hp) : ∀ (ns : List Int), DqA H (ns.map V.int) (nsD ns)
  | [] => .nil
  | n :: ns => .cons (.int n) (DqA.ints_ H ns)
theorem DqA.bools (H : Hp) : ∀ (ns : List Bool), DqA H (ns.map V.bl) (ns.map PyData.bool)
  | [] => .nil
  | n :: ns => .cons (.bl n) (DqA.bools H ns)
theorem DqA.of_nsD {H : Hp} : ∀ {ns : List Int} {vs : List V}, DqA H vs (nsD ns) → vs = ns.map V.int
  | [], _, .nil => rfl
  | n :: ns, _, .cons (.int _) r => by rw [DqA.of_nsD r]; rfl
theorem DqA.of_bools {H : Hp} : ∀ {ns : List Bool} {vs : List V}, DqA H vs (ns.map PyData.bool) → vs = ns.map V.bl
  | [], _, .nil => rfl
  | n :: ns, _, .cons (.bl _) r => by rw [DqA.of_bools r]; rfl

/-- ints read off data -/
def asInts : List PyData → Option (List Int)
  | [] => some []
  | .int i :: r => (asInts r).map (i :: ·)
  | _ :: _ => none
theorem asInts_ints : ∀ ns : List Int, asInts (nsD ns) = some ns
  | [] => rfl
  | n :: ns => by
    show (asInts (nsD ns)).map (n :: ·) = _
    rw [asInts_ints ns]
    rfl
theorem of_asInts : ∀ {ds : List PyData} {ns : List Int}, asInts ds = some ns → ds = nsD ns
  | [], ns, h => by
    cases h
    rfl
  | .int i :: r, ns, h => by
    have h : (asInts r).map (i :: ·) = some ns := h
    obtain ⟨m, e1, e2⟩ := Option.map_eq_some_iff.mp h
    subst e2
    rw [of_asInts e1]
    rfl
  | .none :: r, ns, h => by cases h
  | .bool _ :: r, ns, h => by cases h
  | .str _ :: r, ns, h => by cases h
  | .list _ :: r, ns, h => by cases h
  | .tuple _ :: r, ns, h => by cases h
  | .dict _ :: r, ns, h => by cases h
def asBools : List PyData → Option (List Bool)
  | [] => some []
  | .bool i :: r => (asBools r).map (i :: ·)
  | _ :: _ => none
theorem asBools_bools : ∀ ns : List Bool, asBools (ns.map PyData.bool) = some ns
  | [] => rfl
  | n :: ns => by
    show (asBools (ns.map PyData.bool)).map (n :: ·) = _
    rw [asBools_bools ns]
    rfl
theorem of_asBools : ∀ {ds : List PyData} {ns : List Bool}, asBools ds = some ns → ds = ns.map PyData.bool
  | [], ns, h => by
    cases h
    rfl
  | .bool i :: r, ns, h => by
    have h : (asBools r).map (i :: ·) = some ns := h
    obtain ⟨m, e1, e2⟩ := Option.map_eq_some_iff.mp h
    subst e2
    rw [of_asBools e1]
    rfl
  | .none :: r, ns, h => by cases h
  | .int _ :: r, ns, h => by cases h
  | .str _ :: r, ns, h => by cases h
  | .list _ :: r, ns, h => by cases h
  | .tuple _ :: r, ns, h => by cases h
  | .dict _ :: r, ns, h => by cases h

/-! ### dicts with int keys -/
def KvA (S : Hp) : List (Key × V) → List (Int × PyData) → Prop := Paired fun p q => p.1 = Sum.inl q.1 ∧ Dq S p.2 q.2

/-! ### outcomes -/
inductive Out (ε α : Type) where
  | bad
  | exc (e : ε)
  | ok (a : α)
def Out.bind {ε α β : Type} (x : Out ε α) (f : α → Out ε β) : Out ε β := match x with
  | .bad => .bad
  | .exc e => .exc e
  | .ok a => f a
@[simp] theorem Out.bind_ok {ε α β : Type} (a : α) (f : α → Out ε β) : (Out.ok a).bind f = f a := rfl
@[simp] theorem Out.bind_exc {ε α β : Type} (e : ε) (f : α → Out ε β) : (Out.exc e : Out ε α).bind f = .exc e := rfl
@[simp] theorem Out.bind_bad {ε α β : Type} (f : α → Out ε β) : (Out.bad : Out ε α).bind f = .bad := rfl
def Out.of {ε α : Type} : Option α → Out ε α
  | some a => .ok a
  | none => .bad
@[simp] theorem Out.of_some {ε α : Type} (a : α) : (Out.of (some a) : Out ε α) = .ok a := rfl

/-! ### what is mutable beside the frame's own lists (a bag of draws, a row kept) -/
structure Rsc where
  Γ : Type
  M : Addr → Prop
  ok : Γ → Hp → Hp → Prop
  stab : ∀ γ S H S' H', Same S S' → (∀ b, M b → H' b = H b) → ok γ S H → ok γ S' H'
  mem : ∀ γ S H b, ok γ S H → M b → H b ≠ none
abbrev R0 : Rsc := ⟨Unit, fun _ => False, fun _ _ _ => True, fun _ _ _ _ _ _ _ _ => trivial, fun _ _ _ _ _ h => h.elim⟩

inductive Sl where
  | un
  | sh (d : PyData)
  | ar (d : PyData)
  | ow (ds : List PyData)
  | od (kvs : List (Int × PyData))
  | rw (v : V)
def Sl.own : Sl → Bool
  | .ow _ => true
  | .od _ => true
  | _ => false
inductive Val where
  | sh (d : PyData)
  | fr (ds : List PyData)
  | bo (ds : List PyData)
  | fd (kvs : List (Int × PyData))
  | bd (kvs : List (Int × PyData))
  | rw (v : V)
def Val.data : Val → Option PyData
  | .sh d => some d
  | .fr ds => some (.list ds)
  | .bo ds => some (.list ds)
  | _ => none
structure Tau (R : Rsc) where
  sl : List Sl
  γ : R.Γ
structure Exn (R : Rsc) where
  C : Addr
  f : Option (Str × V)
  γ : R.Γ
abbrev Den (R : Rsc) := Tau R → Out (Exn R) (Val × Tau R)
def Tau.put {R : Rsc} (τ : Tau R) (i : Nat) (s : Sl) : Tau R := ⟨τ.sl.set i s, τ.γ⟩

/-- a def's entry: its frozen part, its heap, what is wanted of an exception -/
structure Bs where
  R : Rsc
  S0 : Hp
  H0 : Hp
  E : XK

def Own (σ : St) (sl : List Sl) (b : Addr) : Prop := ∃ (i : Nat) (s : Sl), sl[i]? = some s ∧ s.own = true ∧ σ[i]? = some (some (.ref b))

section
variable (B : Bs)
/-- an argument: plain frozen data, or a list that the caller owns, read alone -/
def ArgOk (S : Hp) (v : V) (d : PyData) : Prop := Dq S v d ∨ ∃ (a : Addr) (vs : List V) (ds : List PyData), v = .ref a ∧ d = .list ds ∧ ¬ B.R.M a ∧ B.H0 a = some (.lst vs) ∧ DqA S vs ds
def SlOk (S H : Hp) (x : Option (Option V)) : Sl → Prop
  | .un => True
  | .sh d => ∃ v, x = some (some v) ∧ Dq S v d
  | .ar d => ∃ v, x = some (some v) ∧ ArgOk B S v d
  | .ow ds => ∃ a vs, x = some (some (.ref a)) ∧ H a = some (.lst vs) ∧ B.H0 a = none ∧ S a = none ∧ ¬ B.R.M a ∧ DqA S vs ds
  | .od kvs => ∃ a vs, x = some (some (.ref a)) ∧ H a = some (.dK vs) ∧ B.H0 a = none ∧ S a = none ∧ ¬ B.R.M a ∧ KvA S vs kvs
  | .rw v => x = some (some v)
structure Rel (S H : Hp) (σ : St) (τ : Tau B.R) : Prop where
  sub : Same S H
  ent : ∀ b o, ¬ B.R.M b → B.H0 b = some o → H b = some o
  s0 : Same B.S0 S
  new : ∀ b o, S b = some o → B.S0 b = some o ∨ B.H0 b = none
  mS : ∀ b, B.R.M b → S b = none
  len : σ.length = τ.sl.length
  sl : ∀ (i : Nat) (s : Sl), τ.sl[i]? = some s → SlOk B S H (σ[i]?) s
  dis : ∀ (i j : Nat) (s s' : Sl) (b : Addr), τ.sl[i]? = some s → τ.sl[j]? = some s' → s.own = true → s'.own = true → σ[i]? = some (some (.ref b)) → σ[j]? = some (some (.ref b)) → i = j
  res : B.R.ok τ.γ S H
  m0 : ∀ b, B.R.M b → B.H0 b ≠ none
structure Gro (σ : St) (S H : Hp) (sl : List Sl) (S' H' : Hp) (sl' : List Sl) : Prop where
  s : Same S S'
  h : ∀ b o, ¬ B.R.M b → H b = some o → H' b = some o
  n : ∀ b o, S' b = some o → S b = some o ∨ (¬ B.R.M b ∧ (H b = none ∨ Own σ sl b))
  o : ∀ b, Own σ sl' b → Own σ sl b
def VOk (S H : Hp) (σ : St) (sl : List Sl) (v : V) : Val → Prop
  | .sh d => Dq S v d
  | .fr ds => ∃ a vs, v = .ref a ∧ H a = some (.lst vs) ∧ S a = none ∧ ¬ B.R.M a ∧ B.H0 a = none ∧ ¬ Own σ sl a ∧ DqA S vs ds
  | .bo ds => ∃ a vs, v = .ref a ∧ H a = some (.lst vs) ∧ ¬ B.R.M a ∧ DqA S vs ds
  | .fd kvs => ∃ a vs, v = .ref a ∧ H a = some (.dK vs) ∧ S a = none ∧ ¬ B.R.M a ∧ B.H0 a = none ∧ ¬ Own σ sl a ∧ KvA S vs kvs
  | .bd kvs => ∃ a vs, v = .ref a ∧ H a = some (.dK vs) ∧ ¬ B.R.M a ∧ KvA S vs kvs
  | .rw w => v = w
end
theorem Paired.mapK {S S' : Hp} (h : Same S S') : ∀ {vs : List (Key × V)} {kvs : List (Int × PyData)}, KvA S vs kvs → KvA S' vs kvs := fun {vs kvs} r => Paired.mapP r fun p q z => ⟨z.1, z.2.mono h⟩

section
variable {B : Bs} {S H S1 H1 S2 H2 : Hp} {σ : St} {τ τ1 τ2 : Tau B.R} {sl sl1 sl2 : List Sl}
theorem Gro.refl : Gro B σ S H sl S H sl := ⟨Same.refl _, fun _ _ _ e => e, fun _ _ e => .inl e, fun _ e => e⟩
theorem Gro.trans (g : Gro B σ S H sl S1 H1 sl1) (g' : Gro B σ S1 H1 sl1 S2 H2 sl2) : Gro B σ S H sl S2 H2 sl2 where
  s := g.s.trans g'.s
  h := fun b o m e => g'.h b o m (g.h b o m e)
  n := fun b o e => by
    rcases g'.n b o e with e | ⟨m, e⟩
    · exact g.n b o e
    · refine .inr ⟨m, ?_⟩
      rcases e with e | e
      · left
        cases q : H b with
        | none => rfl
        | some u =>
          rw [g.h b u m q] at e
          cases e
      · exact .inr (g.o b e)
  o := fun b e => g.o b (g'.o b e)
theorem VOk.gro (g : Gro B σ S H sl S1 H1 sl1) {v : V} {val : Val} (k : VOk B S H σ sl v val) : VOk B S1 H1 σ sl1 v val := by
  have fresh : ∀ {a : Addr} {o : HO}, H a = some o → S a = none → ¬ Own σ sl a → S1 a = none := fun {a o} h1 h2 h3 => by
    cases q : S1 a with
    | none => rfl
    | some u =>
      rcases g.n a u q with e | ⟨m, e | e⟩
      · rw [h2] at e
        cases e
      · rw [h1] at e
        cases e
      · exact absurd e h3
  cases val with
  | sh d => exact Dq.mono g.s k
  | fr ds =>
    obtain ⟨a, vs, e, h1, h2, h3, h4, h5, h6⟩ := k
    exact ⟨a, vs, e, g.h _ _ h3 h1, fresh h1 h2 h5, h3, h4, fun z => h5 (g.o a z), h6.mono g.s⟩
  | bo ds =>
    obtain ⟨a, vs, e, h1, h3, h6⟩ := k
    exact ⟨a, vs, e, g.h _ _ h3 h1, h3, h6.mono g.s⟩
  | fd kvs =>
    obtain ⟨a, vs, e, h1, h2, h3, h4, h5, h6⟩ := k
    exact ⟨a, vs, e, g.h _ _ h3 h1, fresh h1 h2 h5, h3, h4, fun z => h5 (g.o a z), Paired.mapK g.s h6⟩
  | bd kvs =>
    obtain ⟨a, vs, e, h1, h3, h6⟩ := k
    exact ⟨a, vs, e, g.h _ _ h3 h1, h3, Paired.mapK g.s h6⟩
  | rw w => exact k
theorem Rel.hnone (r : Rel B S H σ τ) {b : Addr} (h : H b = none) : S b = none ∧ B.H0 b = none ∧ ¬ B.R.M b ∧ ¬ Own σ τ.sl b := by
  have hM : ¬ B.R.M b := fun m => B.R.mem _ _ _ _ r.res m h
  refine ⟨r.sub.free h, ?_, hM, ?_⟩
  · cases q : B.H0 b with
    | none => rfl
    | some u =>
      rw [r.ent b u hM q] at h
      cases h
  · rintro ⟨i, s, e1, e2, e3⟩
    have k := r.sl i s e1
    cases s with
    | ow ds =>
      obtain ⟨a, vs, x, y, _⟩ := k
      rw [x] at e3
      cases e3
      rw [h] at y
      cases y
    | od ds =>
      obtain ⟨a, vs, x, y, _⟩ := k
      rw [x] at e3
      cases e3
      rw [h] at y
      cases y
    | un => cases e2
    | sh _ => cases e2
    | ar _ => cases e2
    | rw _ => cases e2
theorem ArgOk.mono (h : Same S S1) {v : V} {d : PyData} (k : ArgOk B S v d) : ArgOk B S1 v d := by
  rcases k with k | ⟨a, vs, ds, e1, e2, e3, e4, e5⟩
  · exact .inl (k.mono h)
  · exact .inr ⟨a, vs, ds, e1, e2, e3, e4, e5.mono h⟩
/-- slots are kept when the frozen part grows and what is owned stands -/
theorem SlOk.mono {x : Option (Option V)} {s : Sl} (k : SlOk B S H x s) (hs : Same S S1) (hh : ∀ a o, s.own = true → x = some (some (.ref a)) → H a = some o → H1 a = some o ∧ (S a = none → S1 a = none)) : SlOk B S1 H1 x s := by
  cases s with
  | un => exact k
  | sh d =>
    obtain ⟨v, e, q⟩ := k
    exact ⟨v, e, q.mono hs⟩
  | ar d =>
    obtain ⟨v, e, q⟩ := k
    exact ⟨v, e, q.mono hs⟩
  | ow ds =>
    obtain ⟨a, vs, e, h1, h2, h3, h4, h5⟩ := k
    exact ⟨a, vs, e, (hh a _ rfl e h1).1, h2, (hh a _ rfl e h1).2 h3, h4, h5.mono hs⟩
  | od ds =>
    obtain ⟨a, vs, e, h1, h2, h3, h4, h5⟩ := k
    exact ⟨a, vs, e, (hh a _ rfl e h1).1, h2, (hh a _ rfl e h1).2 h3, h4, Paired.mapK hs h5⟩
  | rw v => exact k
/-- a new object that is not frozen -/
theorem Rel.lay (r : Rel B S H σ τ) {p : Addr} {o : HO} (hp : H p = none) : Rel B S (upd H p o) σ τ := by
  have q := r.hnone hp
  refine ⟨fun b u e => ?_, fun b u m e => ?_, r.s0, r.new, r.mS, r.len, fun i s e => ?_, r.dis, ?_, r.m0⟩
  · rw [upd_ne (ne_of_none (r.sub b u e) hp)]
    exact r.sub b u e
  · rw [upd_ne (ne_of_none (r.ent b u m e) hp)]
    exact r.ent b u m e
  · refine (r.sl i s e).mono (Same.refl _) fun a u w1 w2 w3 => ⟨?_, fun z => z⟩
    rw [upd_ne (ne_of_none w3 hp)]
    exact w3
  · exact B.R.stab _ _ _ _ _ (Same.refl _) (fun b m => upd_ne fun z => q.2.2.1 (by rw [← z]; exact m)) r.res
theorem Gro.lay (r : Rel B S H σ τ) {p : Addr} {o : HO} (hp : H p = none) : Gro B σ S H sl S (upd H p o) sl :=
  ⟨Same.refl _, fun b u _ e => by rw [upd_ne (ne_of_none e hp)]; exact e, fun _ _ e => .inl e, fun _ e => e⟩
/-- an object that is frozen from here on: a is tracked, nobody's -/
theorem Rel.freeze (r : Rel B S H σ τ) {a : Addr} {o : HO} (h1 : H a = some o) (h2 : S a = none) (h3 : ¬ B.R.M a) (h4 : B.H0 a = none) (h5 : ¬ Own σ τ.sl a) : Rel B (upd S a o) H σ τ := by
  have sm : Same S (upd S a o) := fun b u e => by
    rw [upd_ne (ne_of_none e h2)]
    exact e
  refine ⟨fun b u e => ?_, r.ent, r.s0.trans sm, fun b u e => ?_, fun b m => ?_, r.len, fun i s e => ?_, r.dis, ?_, r.m0⟩
  · by_cases z : b = a
    · subst z
      rw [upd_same] at e
      cases e
      exact h1
    · rw [upd_ne z] at e
      exact r.sub b u e
  · by_cases z : b = a
    · subst z
      exact .inr h4
    · rw [upd_ne z] at e
      exact r.new b u e
  · have z : b ≠ a := fun z => h3 (z ▸ m)
    rw [upd_ne z]
    exact r.mS b m
  · refine (r.sl i s e).mono sm fun b u w1 w2 w3 => ⟨w3, fun z => ?_⟩
    have nb : b ≠ a := fun zz => h5 ⟨i, s, e, w1, by rw [w2, zz]⟩
    rw [upd_ne nb]
    exact z
  · exact B.R.stab _ _ _ _ _ sm (fun _ _ => rfl) r.res
theorem Gro.freeze (r : Rel B S H σ τ) {a : Addr} {o : HO} (h2 : S a = none) (h3 : ¬ B.R.M a) (h5 : H a = none ∨ Own σ sl a) : Gro B σ S H sl (upd S a o) H sl := by
  refine ⟨fun b u e => ?_, fun _ _ _ e => e, fun b u e => ?_, fun _ e => e⟩
  · rw [upd_ne (ne_of_none e h2)]
    exact e
  · by_cases z : b = a
    · subst z
      exact .inr ⟨h3, h5⟩
    · rw [upd_ne z] at e
      exact .inl e
end
end Kn
set_option Elab.async false
set_option linter.all false
set_option maxRecDepth 100000
set_option maxHeartbeats 4000000
namespace Kn
open PySem PySem.Spec L2
open PyProof.Rows hiding St

/-! ### readings and denotations -/
section
variable (B : Bs)
def ExD (H : Hp) (d : Option Addr) : Option (Str × V) → Prop
  | none => d = none
  | some (n, v) => ∃ a, d = some a ∧ H a = some (.xd [(n, v)])
def ExcOk (S : Hp) (e : Exn B.R) : Prop := ∀ S' H σ (τ : Tau B.R) d, Same S S' → Rel B S' H σ τ → τ.γ = e.γ → ExD H d e.f → B.E (.ref e.C) d H
structure Okk (σ : St) (β α : Type) where
  ok : Hp → Hp → List Sl → β → α → Prop
  fr : Hp → List Sl → β → α → Prop
  tr : ∀ {S H S1 H1 : Hp} {sl sl1 : List Sl} {b : β} {a : α}, Gro B σ S H sl S1 H1 sl1 → fr H1 sl1 b a → fr H sl b a
def Sat {σ : St} {α β : Type} (O : Okk B σ β α) (S H : Hp) (τ : Tau B.R) (out : Out (Exn B.R) (α × Tau B.R)) (Q : β → Hp → Prop) : Prop :=
  match out with
  | .bad => False
  | .exc e => ExcOk B S e
  | .ok (a, τ') => ∀ b S' H', Gro B σ S H τ.sl S' H' τ'.sl → Rel B S' H' σ τ' → O.ok S' H' τ'.sl b a → O.fr H τ.sl b a → Q b H'
def Val.isFr : Val → Bool
  | .fr _ => true
  | .fd _ => true
  | _ => false
/-- what is new was not there ahead, or was owned -/
def FrV (σ : St) (H : Hp) (sl : List Sl) (v : V) (val : Val) : Prop := val.isFr = true → ∀ a, v = .ref a → ¬ B.R.M a ∧ (H a = none ∨ Own σ sl a)
theorem FrV.tr {σ : St} {S H S1 H1 : Hp} {sl sl1 : List Sl} {v : V} {val : Val} (g : Gro B σ S H sl S1 H1 sl1) (f : FrV B σ H1 sl1 v val) : FrV B σ H sl v val := fun i a e => by
  obtain ⟨m, h⟩ := f i a e
  refine ⟨m, ?_⟩
  rcases h with h | h
  · left
    cases q : H a with
    | none => rfl
    | some u =>
      rw [g.h a u m q] at h
      cases h
  · exact .inr (g.o a h)
def okV (σ : St) : Okk B σ V Val := ⟨fun S H sl v val => VOk B S H σ sl v val, fun H sl v val => FrV B σ H sl v val, fun g f => FrV.tr B g f⟩
def okB (σ : St) : Okk B σ Bool Bool := ⟨fun _ _ _ b c => b = c, fun _ _ _ _ => True, fun _ _ => trivial⟩
def okA (σ : St) : Okk B σ (List V) (List Val) := ⟨fun S H sl vs vals => Paired (fun v val => VOk B S H σ sl v val) vs vals, fun _ _ _ _ => True, fun _ _ => trivial⟩
def SndE (t : TE) (g : Den B.R) : Prop := ∀ S H σ (τ : Tau B.R) Q, Rel B S H σ τ → Sat B (okV B σ) S H τ (g τ) Q → t σ H Q
abbrev DenT (R : Rsc) := Tau R → Out (Exn R) (Bool × Tau R)
abbrev DenA (R : Rsc) := Tau R → Out (Exn R) (List Val × Tau R)
def SndT (t : TT) (g : DenT B.R) : Prop := ∀ S H σ (τ : Tau B.R) Q, Rel B S H σ τ → Sat B (okB B σ) S H τ (g τ) Q → t σ H Q
def SndA (t : TA) (g : DenA B.R) : Prop := ∀ S H σ (τ : Tau B.R) Q, Rel B S H σ τ → Sat B (okA B σ) S H τ (g τ) Q → t σ H Q
structure DE (X : Cx) (e : Expr) (t : TE) (g : Den B.R) : Prop where
  pe : PE X e t
  sd : SndE B t g
structure DT (X : Cx) (e : Expr) (t : TT) (g : DenT B.R) : Prop where
  pe : PT X e t
  sd : SndT B t g
structure DA (X : Cx) (es : List Expr) (t : TA) (g : DenA B.R) : Prop where
  pe : PA X es t
  sd : SndA B t g
end

section
variable {B : Bs} {S H : Hp} {σ : St} {τ : Tau B.R}
theorem ExcOk.mono {S S' : Hp} {e : Exn B.R} (h : ExcOk B S e) (m : Same S S') : ExcOk B S' e := fun S2 H σ τ d s => h S2 H σ τ d (m.trans s)
/-- one thing, then another -/
theorem Sat.step {α β α2 β2 : Type} {O : Okk B σ β α} {O2 : Okk B σ β2 α2} {out : Out (Exn B.R) (α × Tau B.R)} {f : α × Tau B.R → Out (Exn B.R) (α2 × Tau B.R)} {Q : β2 → Hp → Prop} {Q1 : β → Hp → Prop}
    (h : Sat B O2 S H τ (out.bind f) Q)
    (k : ∀ a τ' b S' H', out = .ok (a, τ') → Gro B σ S H τ.sl S' H' τ'.sl → Rel B S' H' σ τ' → O.ok S' H' τ'.sl b a → O.fr H τ.sl b a → Sat B O2 S' H' τ' (f (a, τ')) Q → Q1 b H') : Sat B O S H τ out Q1 := by
  cases out with
  | bad => exact h
  | exc e => exact h
  | ok p =>
    obtain ⟨a, τ'⟩ := p
    intro b S' H' G R o fr
    refine k a τ' b S' H' rfl G R o fr ?_
    have h : Sat B O2 S H τ (f (a, τ')) Q := h
    unfold Sat at h ⊢
    cases e : f (a, τ') with
    | bad => rw [e] at h; exact h
    | exc x => rw [e] at h; exact ExcOk.mono h G.s
    | ok p2 =>
      obtain ⟨a2, τ2⟩ := p2
      rw [e] at h
      intro b2 S2 H2 G2 R2 o2 f2
      exact h b2 S2 H2 (G.trans G2) R2 o2 (O2.tr G f2)
theorem Sat.shift {α β : Type} {O : Okk B σ β α} {S1 H1 : Hp} {τ1 : Tau B.R} {out : Out (Exn B.R) (α × Tau B.R)} {Q : β → Hp → Prop} (G : Gro B σ S H τ.sl S1 H1 τ1.sl) (h : Sat B O S H τ out Q) : Sat B O S1 H1 τ1 out Q := by
  cases out with
  | bad => exact h
  | exc x => exact ExcOk.mono h G.s
  | ok p => exact fun b2 S4 H4 G4 R4 o4 f4 => h b2 S4 H4 (G.trans G4) R4 o4 (O.tr G f4)
theorem frS {v : V} {d : PyData} {sl : List Sl} : FrV B σ H sl v (.sh d) := fun h => Bool.noConfusion h
theorem frB {v : V} {d : List PyData} {sl : List Sl} : FrV B σ H sl v (.bo d) := fun h => Bool.noConfusion h
theorem frD {v : V} {d : List (Int × PyData)} {sl : List Sl} : FrV B σ H sl v (.bd d) := fun h => Bool.noConfusion h
theorem frR {v w : V} {sl : List Sl} : FrV B σ H sl v (.rw w) := fun h => Bool.noConfusion h
theorem frN {p : Addr} {val : Val} {sl : List Sl} (m : ¬ B.R.M p) (h : H p = none) : FrV B σ H sl (.ref p) val := fun _ a e => by
  cases e
  exact ⟨m, .inl h⟩

/-! ### laying new things -/
theorem lay_lst (R : Rel B S H σ τ) {p : Addr} {vs : List V} {ds : List PyData} (hp : H p = none) (k : DqA S vs ds) :
    Gro B σ S H τ.sl S (upd H p (.lst vs)) τ.sl ∧ Rel B S (upd H p (.lst vs)) σ τ ∧ VOk B S (upd H p (.lst vs)) σ τ.sl (.ref p) (.fr ds) ∧ FrV B σ H τ.sl (.ref p) (.fr ds) := by
  have q := R.hnone hp
  exact ⟨.lay R hp, R.lay hp, ⟨p, vs, rfl, upd_same, q.1, q.2.2.1, q.2.1, q.2.2.2, k⟩, frN q.2.2.1 hp⟩
theorem lay_dict (R : Rel B S H σ τ) {p : Addr} {vs : List (Key × V)} {ds : List (Int × PyData)} (hp : H p = none) (k : KvA S vs ds) :
    Gro B σ S H τ.sl S (upd H p (.dK vs)) τ.sl ∧ Rel B S (upd H p (.dK vs)) σ τ ∧ VOk B S (upd H p (.dK vs)) σ τ.sl (.ref p) (.fd ds) ∧ FrV B σ H τ.sl (.ref p) (.fd ds) := by
  have q := R.hnone hp
  exact ⟨.lay R hp, R.lay hp, ⟨p, vs, rfl, upd_same, q.1, q.2.2.1, q.2.1, q.2.2.2, k⟩, frN q.2.2.1 hp⟩
theorem lay_tup (R : Rel B S H σ τ) {p : Addr} {o : Obj} {vs : List V} {ds : List PyData} (hp : H p = none) (hn : o.dict = none) (k : DqA S vs ds) :
    Gro B σ S H τ.sl (upd S p (.frz o (.tup vs))) (upd H p (.frz o (.tup vs))) τ.sl ∧ Rel B (upd S p (.frz o (.tup vs))) (upd H p (.frz o (.tup vs))) σ τ ∧ VOk B (upd S p (.frz o (.tup vs))) (upd H p (.frz o (.tup vs))) σ τ.sl (.ref p) (.sh (.tuple ds)) := by
  have q := R.hnone hp
  have R1 := R.lay (o := .frz o (.tup vs)) hp
  have sm : Same S (upd S p (.frz o (.tup vs))) := fun b u e => by
    rw [upd_ne (ne_of_none e q.1)]
    exact e
  refine ⟨⟨sm, (Gro.lay (sl := τ.sl) R hp).h, fun b u e => ?_, fun _ e => e⟩, R1.freeze upd_same q.1 q.2.2.1 q.2.1 q.2.2.2, Dq.tup upd_same hn (k.mono sm)⟩
  by_cases z : b = p
  · subst z
    exact .inr ⟨q.2.2.1, .inl hp⟩
  · rw [upd_ne z] at e
    exact .inl e
/-- a value's data is read in the heap -/
theorem VOk.dp {K : PySem.W.Frag} {v : V} {val : Val} {d : PyData} (R : Rel B S H σ τ) (k : VOk B S H σ τ.sl v val) (e : val.data = some d) : Dp K H v d := by
  cases val with
  | sh x =>
    cases e
    exact (Dq.mono R.sub k).dp
  | fr ds =>
    cases e
    obtain ⟨a, vs, rfl, h1, _, _, _, _, h6⟩ := k
    exact .lst (SqL.of h1) (h6.mono R.sub).dp
  | bo ds =>
    cases e
    obtain ⟨a, vs, rfl, h1, _, h6⟩ := k
    exact .lst (SqL.of h1) (h6.mono R.sub).dp
  | fd _ => cases e
  | bd _ => cases e
  | rw _ => cases e
/-- a list's address and items -/
def Val.lst : Val → Option (List PyData)
  | .sh (.list ds) => some ds
  | .fr ds => some ds
  | .bo ds => some ds
  | _ => none
def Val.tup : Val → Option (List PyData)
  | .sh (.tuple ds) => some ds
  | _ => none
/-- a list or a tuple -/
def Val.seq : Val → Option (List PyData)
  | .sh (.list ds) => some ds
  | .sh (.tuple ds) => some ds
  | .fr ds => some ds
  | .bo ds => some ds
  | _ => none
theorem VOk.lst {v : V} {val : Val} {ds : List PyData} (R : Rel B S H σ τ) (k : VOk B S H σ τ.sl v val) (e : val.lst = some ds) : ∃ a vs, v = .ref a ∧ H a = some (.lst vs) ∧ ¬ B.R.M a ∧ DqA S vs ds := by
  cases val with
  | sh x =>
    cases x with
    | list xs =>
      cases e
      cases k with
      | lst h a =>
        refine ⟨_, _, rfl, R.sub _ _ h, fun m => ?_, a⟩
        rw [R.mS _ m] at h
        cases h
    | _ => cases e
  | fr ds =>
    cases e
    obtain ⟨a, vs, rfl, h1, _, h3, _, _, h6⟩ := k
    exact ⟨a, vs, rfl, h1, h3, h6⟩
  | bo ds =>
    cases e
    exact k
  | fd _ => cases e
  | bd _ => cases e
  | rw _ => cases e
theorem VOk.tup {v : V} {val : Val} {ds : List PyData} (k : VOk B S H σ τ.sl v val) (e : val.tup = some ds) : ∃ a o vs, v = .ref a ∧ S a = some (.frz o (.tup vs)) ∧ o.dict = none ∧ DqA S vs ds := by
  cases val with
  | sh x =>
    cases x with
    | tuple xs =>
      cases e
      cases k with
      | tup h n a => exact ⟨_, _, _, rfl, h, n, a⟩
    | _ => cases e
  | fr ds => cases e
  | bo ds => cases e
  | fd _ => cases e
  | bd _ => cases e
  | rw _ => cases e
theorem VOk.seq {v : V} {val : Val} {ds : List PyData} (R : Rel B S H σ τ) (k : VOk B S H σ τ.sl v val) (e : val.seq = some ds) :
    ∃ a vs, v = .ref a ∧ (H a = some (.lst vs) ∨ ∃ o, S a = some (.frz o (.tup vs)) ∧ o.dict = none) ∧ DqA S vs ds := by
  cases val with
  | sh x =>
    cases x with
    | list xs =>
      cases e
      obtain ⟨a, vs, h1, h2, _, h3⟩ := VOk.lst (val := .sh (.list ds)) R k rfl
      exact ⟨a, vs, h1, .inl h2, h3⟩
    | tuple xs =>
      cases e
      obtain ⟨a, o, vs, h1, h2, h4, h3⟩ := VOk.tup (val := .sh (.tuple ds)) k rfl
      exact ⟨a, vs, h1, .inr ⟨o, h2, h4⟩, h3⟩
    | _ => cases e
  | fr ds =>
    cases e
    obtain ⟨a, vs, h1, h2, _, h3⟩ := VOk.lst (val := .fr ds) R k rfl
    exact ⟨a, vs, h1, .inl h2, h3⟩
  | bo ds =>
    cases e
    obtain ⟨a, vs, h1, h2, _, h3⟩ := VOk.lst (val := .bo ds) R k rfl
    exact ⟨a, vs, h1, .inl h2, h3⟩
  | fd _ => cases e
  | bd _ => cases e
  | rw _ => cases e
def Val.int : Val → Option Int
  | .sh (.int i) => some i
  | _ => none
theorem VOk.int {v : V} {val : Val} {i : Int} {sl : List Sl} (k : VOk B S H σ sl v val) (e : val.int = some i) : v = .int i ∧ val = .sh (.int i) := by
  cases val with
  | sh x =>
    cases x with
    | int j =>
      cases e
      cases k
      exact ⟨rfl, rfl⟩
    | _ => cases e
  | _ => cases e

/-! ### names and constants -/
def noList : PyData → Bool
  | .list _ => false
  | _ => true
def dVar {R : Rsc} (i : Nat) : Den R := fun τ => match τ.sl[i]? with
  | some (.sh d) => .ok (.sh d, τ)
  | some (.ar d) => if noList d then .ok (.sh d, τ) else .bad
  | some (.ow ds) => .ok (.sh (.list ds), τ.put i (.sh (.list ds)))
  | some (.rw v) => .ok (.rw v, τ)
  | _ => .bad
/-- read alone -/
def dBor {R : Rsc} (i : Nat) : Den R := fun τ => match τ.sl[i]? with
  | some (.sh d) => .ok (.sh d, τ)
  | some (.ar (.list ds)) => .ok (.bo ds, τ)
  | some (.ar d) => .ok (.sh d, τ)
  | some (.ow ds) => .ok (.bo ds, τ)
  | some (.od kvs) => .ok (.bd kvs, τ)
  | some (.rw v) => .ok (.rw v, τ)
  | _ => .bad
/-- read for the last time -/
def dTake {R : Rsc} (i : Nat) : Den R := fun τ => match τ.sl[i]? with
  | some (.sh d) => .ok (.sh d, τ)
  | some (.ar d) => if noList d then .ok (.sh d, τ) else .bad
  | some (.ow ds) => .ok (.fr ds, τ.put i .un)
  | some (.od kvs) => .ok (.fd kvs, τ.put i .un)
  | some (.rw v) => .ok (.rw v, τ)
  | _ => .bad
theorem Rel.slot (R : Rel B S H σ τ) {i : Nat} {s : Sl} (e : τ.sl[i]? = some s) : SlOk B S H (σ[i]?) s := R.sl i s e
theorem own_put {i : Nat} {s : Sl} (hs : s.own = false) {b : Addr} (h : Own σ (τ.put i s).sl b) : Own σ τ.sl b ∧ σ[i]? ≠ some (some (.ref b)) ∨ (Own σ τ.sl b ∧ ∃ j s', j ≠ i ∧ τ.sl[j]? = some s' ∧ s'.own = true ∧ σ[j]? = some (some (.ref b))) := by
  obtain ⟨j, s', e1, e2, e3⟩ := h
  have e1 : (τ.sl.set i s)[j]? = some s' := e1
  by_cases z : i = j
  · subst z
    rw [List.getElem?_set] at e1
    simp at e1
    rw [← e1.2, hs] at e2
    cases e2
  · rw [List.getElem?_set_ne z] at e1
    exact .inr ⟨⟨j, s', e1, e2, e3⟩, j, s', fun q => z q.symm, e1, e2, e3⟩
theorem own_put_sub {i : Nat} {s : Sl} (hs : s.own = false) {b : Addr} (h : Own σ (τ.put i s).sl b) : Own σ τ.sl b := by
  rcases own_put hs h with h | h
  · exact h.1
  · exact h.1
/-- a slot whose owned thing is let go, or frozen: the frozen part may have grown -/
theorem Rel.put (R : Rel B S H σ τ) {i : Nat} {s : Sl} (hs : s.own = false) (k : SlOk B S H (σ[i]?) s) : Rel B S H σ (τ.put i s) := by
  refine ⟨R.sub, R.ent, R.s0, R.new, R.mS, ?_, fun j s' e => ?_, fun j l s1 s2 b e1 e2 o1 o2 f1 f2 => ?_, R.res, R.m0⟩
  · show σ.length = (τ.sl.set i s).length
    rw [List.length_set]
    exact R.len
  · have e : (τ.sl.set i s)[j]? = some s' := e
    by_cases z : i = j
    · subst z
      rw [List.getElem?_set] at e
      simp at e
      rw [← e.2]
      exact k
    · rw [List.getElem?_set_ne z] at e
      exact R.sl j s' e
  · have e1 : (τ.sl.set i s)[j]? = some s1 := e1
    have e2 : (τ.sl.set i s)[l]? = some s2 := e2
    have n1 : i ≠ j := fun z => by
      subst z
      rw [List.getElem?_set] at e1
      simp at e1
      rw [← e1.2, hs] at o1
      cases o1
    have n2 : i ≠ l := fun z => by
      subst z
      rw [List.getElem?_set] at e2
      simp at e2
      rw [← e2.2, hs] at o2
      cases o2
    rw [List.getElem?_set_ne n1] at e1
    rw [List.getElem?_set_ne n2] at e2
    exact R.dis j l s1 s2 b e1 e2 o1 o2 f1 f2
theorem Gro.put {i : Nat} {s : Sl} (hs : s.own = false) : Gro B σ S H τ.sl S H (τ.put i s).sl := ⟨Same.refl _, fun _ _ _ e => e, fun _ _ e => .inl e, fun _ e => own_put_sub hs e⟩
/-- behind the letting go nobody owns it -/
theorem own_gone (R : Rel B S H σ τ) {i : Nat} {s s' : Sl} {a : Addr} (e : τ.sl[i]? = some s) (o : s.own = true) (ea : σ[i]? = some (some (.ref a))) (hs : s'.own = false) : ¬ Own σ (τ.put i s').sl a := by
  intro h
  obtain ⟨j, s2, e1, e2, e3⟩ := h
  have e1 : (τ.sl.set i s')[j]? = some s2 := e1
  by_cases z : i = j
  · subst z
    rw [List.getElem?_set] at e1
    simp at e1
    rw [← e1.2, hs] at e2
    cases e2
  · rw [List.getElem?_set_ne z] at e1
    exact z (R.dis i j s s2 a e e1 o e2 ea e3)
/-- what was owned is frozen -/
theorem freeze_slot (R : Rel B S H σ τ) {i : Nat} {ds : List PyData} (e : τ.sl[i]? = some (.ow ds)) : ∃ a vs, σ[i]? = some (some (.ref a)) ∧
    Gro B σ S H τ.sl (upd S a (.lst vs)) H (τ.put i (.sh (.list ds))).sl ∧ Rel B (upd S a (.lst vs)) H σ (τ.put i (.sh (.list ds))) ∧ Dq (upd S a (.lst vs)) (.ref a) (.list ds) := by
  obtain ⟨a, vs, ea, h1, h2, h3, h4, h5⟩ := R.sl i _ e
  have R1 := R.put (i := i) (s := .un) rfl trivial
  have n1 : ¬ Own σ (τ.put i .un).sl a := own_gone R e rfl ea rfl
  have R2 : Rel B (upd S a (.lst vs)) H σ (τ.put i .un) := R1.freeze h1 h3 h4 h2 n1
  have sm : Same S (upd S a (.lst vs)) := fun b u q => by
    rw [upd_ne (ne_of_none q h3)]
    exact q
  have hd : Dq (upd S a (.lst vs)) (.ref a) (.list ds) := Dq.lst upd_same (h5.mono sm)
  have R3 := R2.put (i := i) (s := .sh (.list ds)) rfl ⟨_, ea, hd⟩
  have e4 : (τ.put i .un).put i (.sh (.list ds)) = τ.put i (.sh (.list ds)) := by
    show (⟨(τ.sl.set i .un).set i _, τ.γ⟩ : Tau B.R) = ⟨τ.sl.set i _, τ.γ⟩
    rw [List.set_set]
  rw [e4] at R3
  exact ⟨a, vs, ea, (Gro.freeze (sl := τ.sl) R h3 h4 (.inr ⟨i, _, e, rfl, ea⟩)).trans (Gro.put rfl), R3, hd⟩
theorem snd_var {i : Nat} : SndE B (tVar i) (dVar i) := by
  intro S H σ τ Q R h
  unfold dVar at h
  cases e : τ.sl[i]? with
  | none => rw [e] at h; exact h.elim
  | some s =>
    rw [e] at h
    cases s with
    | un => exact h.elim
    | sh d =>
      obtain ⟨v, ev, q⟩ := R.sl i _ e
      exact ⟨v, ev, h v S H .refl R q frS⟩
    | ar d =>
      obtain ⟨v, ev, q⟩ := R.sl i _ e
      cases d with
      | list ds => exact h.elim
      | _ =>
        rcases q with q | ⟨_, _, _, _, z, _⟩
        · exact ⟨v, ev, h v S H .refl R q frS⟩
        · cases z
    | ow ds =>
      obtain ⟨a, vs, ea, G, R', q⟩ := freeze_slot R e
      exact ⟨.ref a, ea, h _ _ _ G R' q frS⟩
    | od kvs => exact h.elim
    | rw v => exact ⟨v, R.sl i _ e, h v S H .refl R rfl frR⟩
theorem snd_bor {i : Nat} : SndE B (tVar i) (dBor i) := by
  intro S H σ τ Q R h
  unfold dBor at h
  cases e : τ.sl[i]? with
  | none => rw [e] at h; exact h.elim
  | some s =>
    rw [e] at h
    cases s with
    | un => exact h.elim
    | sh d =>
      obtain ⟨v, ev, q⟩ := R.sl i _ e
      exact ⟨v, ev, h v S H .refl R q frS⟩
    | ar d =>
      obtain ⟨v, ev, q⟩ := R.sl i _ e
      cases d with
      | list ds =>
        refine ⟨v, ev, h v S H .refl R ?_ frB⟩
        rcases q with q | ⟨a, vs, ds', h1, h2, h3, h4, h5⟩
        · exact VOk.lst (val := .sh (.list ds)) R q rfl
        · cases h2
          exact ⟨a, vs, h1, R.ent _ _ h3 h4, h3, h5⟩
      | _ =>
        rcases q with q | ⟨_, _, _, _, z, _⟩
        · exact ⟨v, ev, h v S H .refl R q frS⟩
        · cases z
    | ow ds =>
      obtain ⟨a, vs, ea, h1, h2, h3, h4, h5⟩ := R.sl i _ e
      exact ⟨.ref a, ea, h _ S H .refl R ⟨a, vs, rfl, h1, h4, h5⟩ frB⟩
    | od kvs =>
      obtain ⟨a, vs, ea, h1, h2, h3, h4, h5⟩ := R.sl i _ e
      exact ⟨.ref a, ea, h _ S H .refl R ⟨a, vs, rfl, h1, h4, h5⟩ frD⟩
    | rw v => exact ⟨v, R.sl i _ e, h v S H .refl R rfl frR⟩
theorem snd_take {i : Nat} : SndE B (tVar i) (dTake i) := by
  intro S H σ τ Q R h
  unfold dTake at h
  cases e : τ.sl[i]? with
  | none => rw [e] at h; exact h.elim
  | some s =>
    rw [e] at h
    cases s with
    | un => exact h.elim
    | sh d =>
      obtain ⟨v, ev, q⟩ := R.sl i _ e
      exact ⟨v, ev, h v S H .refl R q frS⟩
    | ar d =>
      obtain ⟨v, ev, q⟩ := R.sl i _ e
      cases d with
      | list ds => exact h.elim
      | _ =>
        rcases q with q | ⟨_, _, _, _, z, _⟩
        · exact ⟨v, ev, h v S H .refl R q frS⟩
        · cases z
    | ow ds =>
      obtain ⟨a, vs, ea, h1, h2, h3, h4, h5⟩ := R.sl i _ e
      exact ⟨.ref a, ea, h _ S H (Gro.put rfl) (R.put rfl trivial) ⟨a, vs, rfl, h1, h3, h4, h2, own_gone R e rfl ea rfl, h5⟩ (fun _ p z => by cases z; exact ⟨h4, .inr ⟨i, _, e, rfl, ea⟩⟩)⟩
    | od kvs =>
      obtain ⟨a, vs, ea, h1, h2, h3, h4, h5⟩ := R.sl i _ e
      exact ⟨.ref a, ea, h _ S H (Gro.put rfl) (R.put rfl trivial) ⟨a, vs, rfl, h1, h3, h4, h2, own_gone R e rfl ea rfl, h5⟩ (fun _ p z => by cases z; exact ⟨h4, .inr ⟨i, _, e, rfl, ea⟩⟩)⟩
    | rw v => exact ⟨v, R.sl i _ e, h v S H .refl R rfl frR⟩
def dC {R : Rsc} (d : PyData) : Den R := fun τ => .ok (.sh d, τ)
theorem snd_c {v : V} {d : PyData} (k : ∀ S, Dq S v d) : SndE B (tC v) (dC d) := fun S H σ τ Q R h => h v S H .refl R (k S) frS
def dRaw {R : Rsc} (v : V) : Den R := fun τ => .ok (.rw v, τ)
theorem snd_raw {v : V} : SndE B (tC v) (dRaw v) := fun S H σ τ Q R h => h v S H .refl R rfl frR
end
section
variable {X : Cx} {B : Bs}
theorem de_var (i : Nat) {x : Str} {pos : Pos} (hN : X.N[i]? = some x := by rfl) (hv : Vis X.env.scope x := by first | exact Or.inl rfl | exact Or.inr (Or.inl rfl) | exact Or.inr (Or.inr rfl)) (hd : (x == ("__debug__" : Str)) = false := by decide)
    (hcd : (x == ("__classdict__" : Str)) = false := by decide) : DE B X (.Name x pos) (tVar i) (dVar i) := ⟨pe_var hN hv hd hcd, snd_var⟩
theorem de_bor (i : Nat) {x : Str} {pos : Pos} (hN : X.N[i]? = some x := by rfl) (hv : Vis X.env.scope x := by first | exact Or.inl rfl | exact Or.inr (Or.inl rfl) | exact Or.inr (Or.inr rfl)) (hd : (x == ("__debug__" : Str)) = false := by decide)
    (hcd : (x == ("__classdict__" : Str)) = false := by decide) : DE B X (.Name x pos) (tVar i) (dBor i) := ⟨pe_var hN hv hd hcd, snd_bor⟩
theorem de_take (i : Nat) {x : Str} {pos : Pos} (hN : X.N[i]? = some x := by rfl) (hv : Vis X.env.scope x := by first | exact Or.inl rfl | exact Or.inr (Or.inl rfl) | exact Or.inr (Or.inr rfl)) (hd : (x == ("__debug__" : Str)) = false := by decide)
    (hcd : (x == ("__classdict__" : Str)) = false := by decide) : DE B X (.Name x pos) (tVar i) (dTake i) := ⟨pe_var hN hv hd hcd, snd_take⟩
theorem de_int {i : Int} {j pos} : DE B X (.Constant (.int i) j pos) (tC (.int i)) (dC (.int i)) := ⟨pe_int, snd_c fun _ => .int i⟩
theorem de_bl {b : Bool} {j pos} : DE B X (.Constant (.bool b) j pos) (tC (.bl b)) (dC (.bool b)) := ⟨pe_bl, snd_c fun _ => .bl b⟩
theorem de_non {j pos} : DE B X (.Constant .none j pos) (tC .non) (dC .none) := ⟨pe_non, snd_c fun _ => .non⟩
theorem de_str {x : Str} {j pos} : DE B X (.Constant (.str x) j pos) (tC (.str x)) (dC (.str x)) := ⟨pe_str, snd_c fun _ => .str x⟩
theorem de_glob {x : Str} {v : V} {u : Value} {pos : Pos} (hg : Gl X x) (hm : X.mg x = some u) (r : RelV v u) (hd : (x == ("__debug__" : Str)) = false := by decide) : DE B X (.Name x pos) (tC v) (dRaw v) := ⟨pe_glob hg hm r hd, snd_raw⟩
theorem de_gint {x : Str} {i : Int} {u : Value} {pos : Pos} (hg : Gl X x) (hm : X.mg x = some u) (r : RelV (.int i) u) (hd : (x == ("__debug__" : Str)) = false := by decide) : DE B X (.Name x pos) (tC (.int i)) (dC (.int i)) := ⟨pe_glob hg hm r hd, snd_c fun _ => .int i⟩
theorem de_bltn {x : Str} {v : V} {u : Value} {pos : Pos} (hg : Gl X x) (hm : X.mg x = none) (hv : bootBuiltins x = some u) (r : RelV v u) (hn : x ≠ "__name__" := by decide) (hd : (x == ("__debug__" : Str)) = false := by decide) : DE B X (.Name x pos) (tC v) (dRaw v) := ⟨pe_bltn hg hm hv r hn hd, snd_raw⟩
end
end Kn
set_option Elab.async false
set_option linter.all false
set_option maxRecDepth 100000
set_option maxHeartbeats 4000000
namespace Kn
open PySem PySem.Spec L2
open PyProof.Rows hiding St

/-! ### operators -/
section
variable (B : Bs)
/-- a binary rule by values: f tells the outcome -/
def OpS (r : R2) (f : Val → Val → Option Val) : Prop := ∀ S H σ (τ : Tau B.R) v w a b c Q, Rel B S H σ τ → VOk B S H σ τ.sl v a → VOk B S H σ τ.sl w b → f a b = some c →
  (∀ x S' H', Gro B σ S H τ.sl S' H' τ.sl → Rel B S' H' σ τ → VOk B S' H' σ τ.sl x c → FrV B σ H τ.sl x c → Q x H') → r v w H Q
def UnS (r : V → Hp → VK → Prop) (f : Val → Option Val) : Prop := ∀ S H σ (τ : Tau B.R) v a c Q, Rel B S H σ τ → VOk B S H σ τ.sl v a → f a = some c →
  (∀ x S' H', Gro B σ S H τ.sl S' H' τ.sl → Rel B S' H' σ τ → VOk B S' H' σ τ.sl x c → FrV B σ H τ.sl x c → Q x H') → r v H Q
def CallS (r : List V → Hp → VK → Prop) (f : List Val → Option Val) : Prop := ∀ S H σ (τ : Tau B.R) vs as c Q, Rel B S H σ τ → Paired (fun v val => VOk B S H σ τ.sl v val) vs as → f as = some c →
  (∀ x S' H', Gro B σ S H τ.sl S' H' τ.sl → Rel B S' H' σ τ → VOk B S' H' σ τ.sl x c → FrV B σ H τ.sl x c → Q x H') → r vs H Q
end
def dOp {R : Rsc} (f : Val → Val → Option Val) (ga gb : Den R) : Den R := fun τ => (ga τ).bind fun p => (gb p.2).bind fun q => match f p.1 q.1 with
  | some c => .ok (c, q.2)
  | none => .bad
def dUn {R : Rsc} (f : Val → Option Val) (ga : Den R) : Den R := fun τ => (ga τ).bind fun p => match f p.1 with
  | some c => .ok (c, p.2)
  | none => .bad
section
variable {B : Bs}
theorem snd_op {r : R2} {f : Val → Val → Option Val} {ta tb : TE} {ga gb : Den B.R} (ho : OpS B r f) (ha : SndE B ta ga) (hb : SndE B tb gb) : SndE B (tOp r ta tb) (dOp f ga gb) := by
  intro S H σ τ Q R h
  refine ha S H σ τ _ R (Sat.step (f := fun p => (gb p.2).bind fun q => match f p.1 q.1 with
    | some c => .ok (c, q.2)
    | none => .bad) h fun a τ1 v S1 H1 _ G1 R1 o1 _ h1 => ?_)
  refine hb S1 H1 σ τ1 _ R1 (Sat.step (f := fun q => match f a q.1 with
    | some c => .ok (c, q.2)
    | none => .bad) h1 fun b τ2 w S2 H2 _ G2 R2 o2 _ h2 => ?_)
  cases e : f a b with
  | none =>
    simp only [e] at h2
    exact h2.elim
  | some c =>
    simp only [e] at h2
    exact ho S2 H2 σ τ2 v w a b c Q R2 (VOk.gro G2 o1) o2 e fun x S' H' G R k f => h2 x S' H' G R k f
theorem snd_un {r : V → Hp → VK → Prop} {f : Val → Option Val} {ta : TE} {ga : Den B.R} (ho : UnS B r f) (ha : SndE B ta ga) : SndE B (tUn r ta) (dUn f ga) := by
  intro S H σ τ Q R h
  refine ha S H σ τ _ R (Sat.step (f := fun p => match f p.1 with
    | some c => .ok (c, p.2)
    | none => .bad) h fun a τ1 v S1 H1 _ G1 R1 o1 _ h1 => ?_)
  cases e : f a with
  | none =>
    simp only [e] at h1
    exact h1.elim
  | some c =>
    simp only [e] at h1
    exact ho S1 H1 σ τ1 v a c Q R1 o1 e fun x S' H' G R k f => h1 x S' H' G R k f

theorem OpS.or {r r' : R2} {f f' : Val → Val → Option Val} (h : OpS B r f) (h' : OpS B r' f') : OpS B (fun x y H Q => r x y H Q ∨ r' x y H Q) (fun a b => (f a b).or (f' a b)) := by
  intro S H σ τ v w a b c Q R ka kb e k
  have e : (f a b).or (f' a b) = some c := e
  cases q : f a b with
  | some z =>
    rw [q] at e
    exact .inl (h S H σ τ v w a b c Q R ka kb (q.trans e) k)
  | none =>
    rw [q, Option.none_or] at e
    exact .inr (h' S H σ τ v w a b c Q R ka kb e k)
theorem CallS.or {r r' : List V → Hp → VK → Prop} {f f' : List Val → Option Val} (h : CallS B r f) (h' : CallS B r' f') : CallS B (fun xs H Q => r xs H Q ∨ r' xs H Q) (fun a => (f a).or (f' a)) := by
  intro S H σ τ vs as c Q R ka e k
  have e : (f as).or (f' as) = some c := e
  cases q : f as with
  | some z =>
    rw [q] at e
    exact .inl (h S H σ τ vs as c Q R ka (q.trans e) k)
  | none =>
    rw [q, Option.none_or] at e
    exact .inr (h' S H σ τ vs as c Q R ka e k)

/-! ints -/
def f2I (g : Int → Int → Option PyData) : Val → Val → Option Val := fun a b => match a.int, b.int with
  | some i, some j => (g i j).map .sh
  | _, _ => none
theorem ops_I0 {g : Int → Int → V} {d : Int → Int → PyData} (k : ∀ i j S, Dq S (g i j) (d i j)) : OpS B (rI0 g) (f2I fun i j => some (d i j)) := by
  intro S H σ τ v w a b c Q R ka kb e q
  unfold f2I at e
  cases ea : a.int with
  | none => simp only [ea] at e; cases e
  | some i =>
    cases eb : b.int with
    | none => simp only [ea, eb] at e; cases e
    | some j =>
      simp only [ea, eb] at e
      cases e
      obtain ⟨rfl, _⟩ := ka.int ea
      obtain ⟨rfl, _⟩ := kb.int eb
      exact ⟨i, j, rfl, rfl, q _ S H .refl R (k i j S) frS⟩
theorem ops_I {C : Int → Int → Prop} [∀ i j, Decidable (C i j)] {g : Int → Int → V} {d : Int → Int → PyData} (k : ∀ i j S, Dq S (g i j) (d i j)) : OpS B (rI C g) (f2I fun i j => if C i j then some (d i j) else none) := by
  intro S H σ τ v w a b c Q R ka kb e q
  unfold f2I at e
  cases ea : a.int with
  | none => simp only [ea] at e; cases e
  | some i =>
    cases eb : b.int with
    | none => simp only [ea, eb] at e; cases e
    | some j =>
      simp only [ea, eb] at e
      obtain ⟨rfl, _⟩ := ka.int ea
      obtain ⟨rfl, _⟩ := kb.int eb
      by_cases z : C i j
      · rw [if_pos z] at e
        cases e
        exact ⟨i, j, rfl, rfl, z, q _ S H .refl R (k i j S) frS⟩
      · rw [if_neg z] at e
        cases e
instance : DecidablePred fun (p : Int × Int) => CMul p.1 p.2 := fun p => by unfold CMul; infer_instance
instance (i j : Int) : Decidable (CMul i j) := by unfold CMul; infer_instance
instance (i j : Int) : Decidable (CDiv i j) := by unfold CDiv; infer_instance
instance (i j : Int) : Decidable (CPow i j) := by unfold CPow; infer_instance
def fAddI := f2I fun i j => some (.int (i + j))
def fSubI := f2I fun i j => some (.int (i - j))
def fMulI := f2I fun i j => if CMul i j then some (.int (i * j)) else none
def fDivI := f2I fun i j => if CDiv i j then some (.int (i / j)) else none
def fModI := f2I fun i j => if 0 < j then some (.int (i % j)) else none
def fPowI := f2I fun i j => if CPow i j then some (.int (i ^ j.toNat)) else none
def fLt := f2I fun i j => some (.bool (decide (i < j)))
def fLe := f2I fun i j => some (.bool (decide (i ≤ j)))
def fGt := f2I fun i j => some (.bool (decide (j < i)))
def fGe := f2I fun i j => some (.bool (decide (j ≤ i)))
theorem s_addI : OpS B (rI0 fun i j => .int (i + j)) fAddI := ops_I0 fun _ _ _ => .int _
theorem s_sub : OpS B (rI0 fun i j => .int (i - j)) fSubI := ops_I0 fun _ _ _ => .int _
theorem s_mulI : OpS B (rI CMul fun i j => .int (i * j)) fMulI := ops_I fun _ _ _ => .int _
theorem s_div : OpS B (rI CDiv fun i j => .int (i / j)) fDivI := ops_I fun _ _ _ => .int _
theorem s_mod : OpS B (rI (fun _ j => 0 < j) fun i j => .int (i % j)) fModI := ops_I (C := fun _ j => 0 < j) fun _ _ _ => .int _
theorem s_pow : OpS B (rI CPow fun i j => .int (i ^ j.toNat)) fPowI := ops_I fun _ _ _ => .int _
theorem s_lt : OpS B (rI0 fun i j => .bl (decide (i < j))) fLt := ops_I0 fun _ _ _ => .bl _
theorem s_le : OpS B (rI0 fun i j => .bl (decide (i ≤ j))) fLe := ops_I0 fun _ _ _ => .bl _
theorem s_gt : OpS B (rI0 fun i j => .bl (decide (j < i))) fGt := ops_I0 fun _ _ _ => .bl _
theorem s_ge : OpS B (rI0 fun i j => .bl (decide (j ≤ i))) fGe := ops_I0 fun _ _ _ => .bl _
def fNeg : Val → Option Val := fun a => a.int.map fun i => .sh (.int (-i))
theorem s_neg : UnS B (rU fun i => .int (-i)) fNeg := by
  intro S H σ τ v a c Q R ka e q
  unfold fNeg at e
  cases ea : a.int with
  | none => rw [ea] at e; cases e
  | some i =>
    rw [ea] at e
    cases e
    obtain ⟨rfl, _⟩ := ka.int ea
    exact ⟨i, rfl, q _ S H .refl R (Dq.int _) frS⟩

/-! tuples and lists -/
def fCatT : Val → Val → Option Val := fun a b => match a.tup, b.tup with
  | some xs, some ys => if xs.length + ys.length ≤ sizeLine then some (.sh (.tuple (xs ++ ys))) else none
  | _, _ => none
theorem s_catT {K : PySem.W.Frag} : OpS B (rCatF K) fCatT := by
  intro S H σ τ v w a b c Q R ka kb e q
  unfold fCatT at e
  cases ea : a.tup with
  | none => simp only [ea] at e; cases e
  | some xs =>
    cases eb : b.tup with
    | none => simp only [ea, eb] at e; cases e
    | some ys =>
      simp only [ea, eb] at e
      obtain ⟨p, o1, vs, rfl, h1, n1, k1⟩ := ka.tup ea
      obtain ⟨p2, o2, ws, rfl, h2, n2, k2⟩ := kb.tup eb
      by_cases z : xs.length + ys.length ≤ sizeLine
      · rw [if_pos z] at e
        cases e
        refine ⟨p, p2, vs, ws, rfl, rfl, sqtF (R.sub _ _ h1), sqtF (R.sub _ _ h2), by rw [k1.len, k2.len]; exact z, fun e0 => ?_, fun _ e0 => ?_, fun _ _ t o ht hn => ?_⟩
        · subst e0
          cases k1
          exact q _ S H .refl R (Dq.tup h2 n2 k2) frS
        · subst e0
          cases k2
          rw [List.append_nil] at q
          exact q _ S H .refl R (Dq.tup h1 n1 k1) frS
        · obtain ⟨g, r, k⟩ := lay_tup R ht hn (k1.append k2)
          exact q _ _ _ g r k frS
      · rw [if_neg z] at e
        cases e
def fCatL : Val → Val → Option Val := fun a b => match a.lst, b.lst with
  | some xs, some ys => if xs.length + ys.length ≤ sizeLine then some (.fr (xs ++ ys)) else none
  | _, _ => none
theorem s_catL : OpS B rCat fCatL := by
  intro S H σ τ v w a b c Q R ka kb e q
  unfold fCatL at e
  cases ea : a.lst with
  | none => simp only [ea] at e; cases e
  | some xs =>
    cases eb : b.lst with
    | none => simp only [ea, eb] at e; cases e
    | some ys =>
      simp only [ea, eb] at e
      obtain ⟨p, vs, rfl, h1, _, k1⟩ := ka.lst R ea
      obtain ⟨p2, ws, rfl, h2, _, k2⟩ := kb.lst R eb
      by_cases z : xs.length + ys.length ≤ sizeLine
      · rw [if_pos z] at e
        cases e
        refine ⟨p, p2, vs, ws, rfl, rfl, h1, h2, by rw [k1.len, k2.len]; exact z, fun t ht => ?_⟩
        obtain ⟨g, r, k, f⟩ := lay_lst R ht (k1.append k2)
        exact q _ _ _ g r k f
      · rw [if_neg z] at e
        cases e
theorem DqA.rep {S : Hp} {vs : List V} {ds : List PyData} (k : DqA S vs ds) : ∀ n : Nat, DqA S (List.replicate n vs).flatten (List.replicate n ds).flatten
  | 0 => by simpa using DqA.nil
  | n + 1 => by simpa [List.replicate_succ] using k.append (DqA.rep k n)
def fRepL : Val → Val → Option Val := fun a b => match a.lst, b.int with
  | some xs, some k => if -(2 ^ 63) ≤ k ∧ k < 2 ^ 63 ∧ xs.length * k.toNat ≤ sizeLine then some (.fr (List.replicate k.toNat xs).flatten) else none
  | _, _ => none
theorem s_repL : OpS B rRep fRepL := by
  intro S H σ τ v w a b c Q R ka kb e q
  unfold fRepL at e
  cases ea : a.lst with
  | none => simp only [ea] at e; cases e
  | some xs =>
    cases eb : b.int with
    | none => simp only [ea, eb] at e; cases e
    | some ys =>
      simp only [ea, eb] at e
      obtain ⟨p, vs, rfl, h1, _, k1⟩ := ka.lst R ea
      obtain ⟨rfl, _⟩ := kb.int eb
      by_cases z : -(2 ^ 63) ≤ ys ∧ ys < 2 ^ 63 ∧ xs.length * ys.toNat ≤ sizeLine
      · rw [if_pos z] at e
        cases e
        refine ⟨p, ys, vs, rfl, rfl, h1, z.1, z.2.1, by rw [k1.len]; exact z.2.2, fun t ht => ?_⟩
        obtain ⟨g, r, k, f⟩ := lay_lst R ht (k1.rep ys.toNat)
        exact q _ _ _ g r k f
      · rw [if_neg z] at e
        cases e
/-! == and != of data at any depth, in, not in -/
def fEq : Val → Val → Option Val := fun a b => match a.data, b.data with
  | some d, some e => if SeqAt.shaped d = true ∧ SeqAt.shaped e = true then some (.sh (.bool (PyData.eqv d e))) else none
  | _, _ => none
def fNe : Val → Val → Option Val := fun a b => match a.data, b.data with
  | some d, some e => if SeqAt.shaped d = true ∧ SeqAt.shaped e = true then some (.sh (.bool (!PyData.eqv d e))) else none
  | _, _ => none
theorem s_eq {K : PySem.W.Frag} : OpS B (rEqD K) fEq := by
  intro S H σ τ v w a b c Q R ka kb e q
  unfold fEq at e
  cases ea : a.data with
  | none => simp only [ea] at e; cases e
  | some d =>
    cases eb : b.data with
    | none => simp only [ea, eb] at e; cases e
    | some d2 =>
      simp only [ea, eb] at e
      by_cases z : SeqAt.shaped d = true ∧ SeqAt.shaped d2 = true
      · rw [if_pos z] at e
        cases e
        exact ⟨d, d2, ka.dp R ea, kb.dp R eb, z.1, z.2, q _ S H .refl R (.bl _) frS⟩
      · rw [if_neg z] at e
        cases e
theorem s_ne {K : PySem.W.Frag} : OpS B (rNeD K) fNe := by
  intro S H σ τ v w a b c Q R ka kb e q
  unfold fNe at e
  cases ea : a.data with
  | none => simp only [ea] at e; cases e
  | some d =>
    cases eb : b.data with
    | none => simp only [ea, eb] at e; cases e
    | some d2 =>
      simp only [ea, eb] at e
      by_cases z : SeqAt.shaped d = true ∧ SeqAt.shaped d2 = true
      · rw [if_pos z] at e
        cases e
        exact ⟨d, d2, ka.dp R ea, kb.dp R eb, z.1, z.2, q _ S H .refl R (.bl _) frS⟩
      · rw [if_neg z] at e
        cases e
/-- flat data: none, bools, ints, texts -/
def flatD : PyData → Bool
  | .none => true
  | .bool _ => true
  | .int _ => true
  | .str _ => true
  | _ => false
theorem flat_of {S : Hp} {v : V} {d : PyData} (k : Dq S v d) (f : flatD d = true) : flatV v = true := by
  cases k <;> first | rfl | cases f
theorem flat_ofA {S : Hp} : ∀ {vs : List V} {ds : List PyData}, DqA S vs ds → ds.all flatD = true → vs.all flatV = true
  | _, _, .nil, _ => rfl
  | _, _, .cons a r, f => by
    rw [List.all_cons, Bool.and_eq_true] at f
    rw [List.all_cons, flat_of a f.1, flat_ofA r f.2]
    rfl
theorem eqV_eqv {S : Hp} {x y : V} {d e : PyData} (k : Dq S x d) (k' : Dq S y e) (f : flatD d = true) (f' : flatD e = true) : eqV x y = PyData.eqv d e := by
  cases k <;> first | (cases f; done) | (cases k' <;> first | (cases f'; done) | (simp [eqV, PyData.eqv]))
theorem inV_any {S : Hp} {x : V} {d : PyData} (k : Dq S x d) (f : flatD d = true) : ∀ {vs : List V} {ds : List PyData}, DqA S vs ds → ds.all flatD = true → inV x vs = ds.any fun z => PyData.eqv z d
  | _, _, .nil, _ => rfl
  | _, _, .cons a r, g => by
    rw [List.all_cons, Bool.and_eq_true] at g
    have ih := inV_any k f r g.2
    unfold inV at ih ⊢
    rw [List.any_cons, List.any_cons, ih, eqV_eqv a k g.1 f]
def fIn (neg : Bool) : Val → Val → Option Val := fun a b => match a.data, b.seq with
  | some d, some ds => if flatD d = true ∧ ds.all flatD = true then some (.sh (.bool (if neg then !(ds.any fun z => PyData.eqv z d) else ds.any fun z => PyData.eqv z d))) else none
  | _, _ => none
theorem flat_sh {S H : Hp} {σ : St} {sl : List Sl} {v : V} {a : Val} {d : PyData} (k : VOk B S H σ sl v a) (e : a.data = some d) (f : flatD d = true) : Dq S v d := by
  cases a with
  | sh x => cases e; exact k
  | fr ds => cases e; cases f
  | bo ds => cases e; cases f
  | fd _ => cases e
  | bd _ => cases e
  | rw _ => cases e
theorem s_in {K : PySem.W.Frag} {neg : Bool} : OpS B (rIn K neg) (fIn neg) := by
  intro S H σ τ v w a b c Q R ka kb e q
  unfold fIn at e
  cases ea : a.data with
  | none => simp only [ea] at e; cases e
  | some d =>
    cases eb : b.seq with
    | none => simp only [ea, eb] at e; cases e
    | some ds =>
      simp only [ea, eb] at e
      by_cases z : flatD d = true ∧ ds.all flatD = true
      · rw [if_pos z] at e
        cases e
        have kd := flat_sh ka ea z.1
        obtain ⟨p, vs, rfl, h, k⟩ := kb.seq R eb
        refine ⟨p, vs, rfl, ?_, flat_of kd z.1, flat_ofA k z.2, ?_⟩
        · rcases h with h | ⟨o, h, _⟩
          · exact .inl (SqL.of h)
          · exact .inr (sqtF (R.sub _ _ h))
        · rw [inV_any kd z.1 k z.2]
          exact q _ S H .refl R (.bl _) frS
      · rw [if_neg z] at e
        cases e
def fInD (neg : Bool) : Val → Val → Option Val := fun a b => match a.data, b.lst with
  | some d, some ds => if SeqAt.shaped d = true ∧ SeqAt.shaped (.list ds) = true then some (.sh (.bool (if neg then !(ds.any fun z => PyData.eqv z d) else ds.any fun z => PyData.eqv z d))) else none
  | _, _ => none
theorem lst_data {a : Val} {ds : List PyData} (e : a.lst = some ds) : a.data = some (.list ds) := by
  cases a with
  | sh x =>
    cases x with
    | list xs => cases e; rfl
    | _ => cases e
  | fr ds => cases e; rfl
  | bo ds => cases e; rfl
  | fd _ => cases e
  | bd _ => cases e
  | rw _ => cases e
theorem s_inD {K : PySem.W.Frag} : OpS B (rInD K) (fInD false) := by
  intro S H σ τ v w a b c Q R ka kb e q
  unfold fInD at e
  cases ea : a.data with
  | none => simp only [ea] at e; cases e
  | some d =>
    cases eb : b.lst with
    | none => simp only [ea, eb] at e; cases e
    | some ds =>
      simp only [ea, eb] at e
      by_cases z : SeqAt.shaped d = true ∧ SeqAt.shaped (.list ds) = true
      · rw [if_pos z] at e
        cases e
        exact ⟨d, ds, ka.dp R ea, kb.dp R (lst_data eb), z.1, z.2, q _ S H .refl R (.bl _) frS⟩
      · rw [if_neg z] at e
        cases e
theorem s_notInD {K : PySem.W.Frag} : OpS B (rNotInD K) (fInD true) := by
  intro S H σ τ v w a b c Q R ka kb e q
  unfold fInD at e
  cases ea : a.data with
  | none => simp only [ea] at e; cases e
  | some d =>
    cases eb : b.lst with
    | none => simp only [ea, eb] at e; cases e
    | some ds =>
      simp only [ea, eb] at e
      by_cases z : SeqAt.shaped d = true ∧ SeqAt.shaped (.list ds) = true
      · rw [if_pos z] at e
        cases e
        exact ⟨d, ds, ka.dp R ea, kb.dp R (lst_data eb), z.1, z.2, q _ S H .refl R (.bl _) frS⟩
      · rw [if_neg z] at e
        cases e
/-- is None -/
def isNon : PyData → Bool
  | .none => true
  | _ => false
def fIsN (neg : Bool) : Val → Val → Option Val := fun a b => match a, b with
  | .sh d, .sh .none => some (.sh (.bool (if neg then !isNon d else isNon d)))
  | _, _ => none
theorem non_iff {S : Hp} {v : V} {d : PyData} (k : Dq S v d) : decide (v = V.non) = isNon d := by
  cases k <;> simp [isNon]
theorem s_isN : OpS B (fun x y H Q => y = .non ∧ Q (.bl (decide (x = .non))) H) (fIsN false) := by
  intro S H σ τ v w a b c Q R ka kb e q
  unfold fIsN at e
  split at e
  · cases e
    cases kb
    refine ⟨rfl, ?_⟩
    rw [non_iff ka]
    exact q _ S H .refl R (Dq.bl _) frS
  · cases e
theorem s_notN : OpS B (fun x y H Q => y = .non ∧ Q (.bl (!decide (x = .non))) H) (fIsN true) := by
  intro S H σ τ v w a b c Q R ka kb e q
  unfold fIsN at e
  split at e
  · cases e
    cases kb
    refine ⟨rfl, ?_⟩
    rw [non_iff ka]
    exact q _ S H .refl R (Dq.bl _) frS
  · cases e
/-- tuples of ints in order -/
def fLtT : Val → Val → Option Val := fun a b => match a.tup.bind asInts, b.tup.bind asInts with
  | some ns, some ms => some (.sh (.bool (HT.lexLt ns ms)))
  | _, _ => none
theorem VOk.tupI {S H : Hp} {σ : St} {sl : List Sl} {v : V} {val : Val} {ns : List Int} (k : VOk B S H σ sl v val) (e : val.tup.bind asInts = some ns) : ∃ a o, v = .ref a ∧ S a = some (.frz o (.tup (ns.map V.int))) := by
  obtain ⟨ds, e1, e2⟩ := Option.bind_eq_some_iff.mp e
  cases val with
  | sh x =>
    cases x with
    | tuple xs =>
      cases e1
      cases k with
      | tup h n a =>
        rw [of_asInts e2] at a
        rw [a.of_nsD] at h
        exact ⟨_, _, rfl, h⟩
    | _ => cases e1
  | _ => cases e1
theorem s_ltT {K : PySem.W.Frag} : OpS B (rLtT K) fLtT := by
  intro S H σ τ v w a b c Q R ka kb e q
  unfold fLtT at e
  cases ea : a.tup.bind asInts with
  | none => simp only [ea] at e; cases e
  | some ns =>
    cases eb : b.tup.bind asInts with
    | none => simp only [ea, eb] at e; cases e
    | some ms =>
      simp only [ea, eb] at e
      cases e
      obtain ⟨p, _, rfl, h1⟩ := ka.tupI ea
      obtain ⟨p2, _, rfl, h2⟩ := kb.tupI eb
      exact ⟨p, p2, ns, ms, rfl, rfl, sqtF (R.sub _ _ h1), sqtF (R.sub _ _ h2), q _ S H .refl R (.bl _) frS⟩

/-! subscripts -/
def fIx : Val → Val → Option Val := fun a b => match a.seq, b.int with
  | some ds, some i => (atI ds i).map .sh
  | _, _ => none
theorem atI_map {S : Hp} {vs : List V} {ds : List PyData} (k : DqA S vs ds) {i : Int} {d : PyData} (e : atI ds i = some d) : ∃ v, atI vs i = some v ∧ Dq S v d := by
  unfold atI at e ⊢
  rw [k.len]
  obtain ⟨j, e1, e2⟩ := Option.bind_eq_some_iff.mp e
  obtain ⟨v, e3, q⟩ := k.get' e2
  exact ⟨v, by rw [e1]; exact e3, q⟩
theorem s_ix {K : PySem.W.Frag} : OpS B (rIx K) fIx := by
  intro S H σ τ v w a b c Q R ka kb e q
  unfold fIx at e
  cases ea : a.seq with
  | none => simp only [ea] at e; cases e
  | some ds =>
    cases eb : b.int with
    | none => simp only [ea, eb] at e; cases e
    | some i =>
      simp only [ea, eb] at e
      obtain ⟨d, e1, e2⟩ := Option.map_eq_some_iff.mp e
      subst e2
      obtain ⟨p, vs, rfl, h, k⟩ := ka.seq R ea
      obtain ⟨rfl, _⟩ := kb.int eb
      obtain ⟨x, ex, kx⟩ := atI_map k e1
      rcases h with h | ⟨o, h, _⟩
      · exact .inl ⟨p, vs, i, x, rfl, rfl, SqL.of h, ex, q _ S H .refl R kx frS⟩
      · exact .inr (.inl ⟨p, vs, i, x, rfl, rfl, sqtF (R.sub _ _ h), ex, q _ S H .refl R kx frS⟩)
end
end Kn
set_option Elab.async false
set_option linter.all false
set_option maxRecDepth 100000
set_option maxHeartbeats 4000000
namespace Kn
open PySem PySem.Spec L2
open PyProof.Rows hiding St

section
variable {X : Cx} {B : Bs} {a b c e : Expr} {es : List Expr} {ta tb tc te : TE} {ga gb gc ge : Den B.R} {pos : Pos} {k : Nat}
/-! ### arithmetic -/
theorem de_op {op : Operator} {r : R2} {f : Val → Val → Option Val} (ho : OpR X (binaryOp op) r) (hs : OpS B r f) (ha : DE B X a ta ga) (hb : DE B X b tb gb) : DE B X (.BinOp a op b pos) (tOp r ta tb) (dOp f ga gb) :=
  ⟨pe_op ho ha.pe hb.pe, snd_op hs ha.sd hb.sd⟩
def fAdd : Val → Val → Option Val := fun a b => (fAddI a b).or ((fCatT a b).or (fCatL a b))
def rAddA (K : PySem.W.Frag) : R2 := fun x y H Q => rI0 (fun i j => .int (i + j)) x y H Q ∨ (rCatF K x y H Q ∨ rCat x y H Q)
theorem op_addA : OpR X (binaryOp .Add) (rAddA X.K) := op_add.or (op_catF.or op_cat)
theorem s_addA {K : PySem.W.Frag} : OpS B (rAddA K) fAdd := s_addI.or (s_catT.or s_catL)
theorem de_add (ha : DE B X a ta ga) (hb : DE B X b tb gb) : DE B X (.BinOp a .Add b pos) (tOp (rAddA X.K) ta tb) (dOp fAdd ga gb) := de_op op_addA s_addA ha hb
theorem de_sub (ha : DE B X a ta ga) (hb : DE B X b tb gb) : DE B X (.BinOp a .Sub b pos) (tOp (rI0 fun i j => .int (i - j)) ta tb) (dOp fSubI ga gb) := de_op op_sub s_sub ha hb
def fMul : Val → Val → Option Val := fun a b => (fMulI a b).or (fRepL a b)
def rMulA : R2 := fun x y H Q => rI CMul (fun i j => .int (i * j)) x y H Q ∨ rRep x y H Q
theorem de_mul (ha : DE B X a ta ga) (hb : DE B X b tb gb) : DE B X (.BinOp a .Mult b pos) (tOp rMulA ta tb) (dOp fMul ga gb) := de_op (op_mul.or op_rep) (s_mulI.or s_repL) ha hb
theorem de_div (ha : DE B X a ta ga) (hb : DE B X b tb gb) : DE B X (.BinOp a .FloorDiv b pos) (tOp (rI CDiv fun i j => .int (i / j)) ta tb) (dOp fDivI ga gb) := de_op op_fdiv s_div ha hb
theorem de_mod (ha : DE B X a ta ga) (hb : DE B X b tb gb) : DE B X (.BinOp a .Mod b pos) (tOp (rI (fun _ j => 0 < j) fun i j => .int (i % j)) ta tb) (dOp fModI ga gb) := de_op op_mod s_mod ha hb
theorem de_pow (ha : DE B X a ta ga) (hb : DE B X b tb gb) : DE B X (.BinOp a .Pow b pos) (tOp (rI CPow fun i j => .int (i ^ j.toNat)) ta tb) (dOp fPowI ga gb) := de_op op_pow s_pow ha hb
theorem de_neg (ha : DE B X a ta ga) : DE B X (.UnaryOp .USub a pos) (tUn (rU fun i => .int (-i)) ta) (dUn fNeg ga) := ⟨pe_un un_neg ha.pe, snd_un s_neg ha.sd⟩

/-! ### tests -/
def dTest {R : Rsc} (g : Den R) : DenT R := fun τ => (g τ).bind fun p => match p.1 with
  | .sh (.bool b) => .ok (b, p.2)
  | _ => .bad
theorem snd_test {t : TE} {g : Den B.R} (h : SndE B t g) : SndT B (tTest t) (dTest g) := by
  intro S H σ τ Q R q
  refine h S H σ τ _ R (Sat.step (f := fun p => match p.1 with
    | .sh (.bool b) => .ok (b, p.2)
    | _ => .bad) q fun a τ1 v S1 H1 _ G1 R1 o1 _ h1 => ?_)
  cases a with
  | sh d =>
    cases d with
    | bool b =>
      cases o1
      exact ⟨b, rfl, h1 b S1 H1 .refl R1 rfl trivial⟩
    | _ => exact h1.elim
  | _ => exact h1.elim
theorem snd_testB {t : TE} {g : Den B.R} (h : SndE B t g) : SndT B (tB t) (dTest g) := snd_test h
theorem de_cmp {op : CmpOp} {r : R2} {f : Val → Val → Option Val} (ho : OpR X (compareOp op) r) (hs : OpS B r f) (ha : DE B X a ta ga) (hb : DE B X b tb gb) (hm : behindInMarks op b = false) :
    DE B X (.Compare a [op] [b] pos) (tOp r ta tb) (dOp f ga gb) := ⟨pe_cmpR ho ha.pe hb.pe hm, snd_op hs ha.sd hb.sd⟩
theorem dt_cmp {op : CmpOp} {r : R2} {f : Val → Val → Option Val} (ho : OpR X (compareOp op) r) (hs : OpS B r f) (ha : DE B X a ta ga) (hb : DE B X b tb gb) (hm : behindInMarks op b = false) :
    DT B X (.Compare a [op] [b] pos) (tTest (tOp r ta tb)) (dTest (dOp f ga gb)) := ⟨pt_cmpR ho ha.pe hb.pe hm, snd_test (snd_op hs ha.sd hb.sd)⟩
theorem dt_val (ha : DE B X a ta ga) (he : ∀ whole, isTrue a X.env whole = (do let v ← whole; standAt a.pos; holding [v] (truthy v)) := by intro _; rfl) : DT B X a (tB ta) (dTest ga) := ⟨pt_val ha.pe he, snd_testB ha.sd⟩
def fLtA : Val → Val → Option Val := fun a b => (fLt a b).or (fLtT a b)
def rLtA (K : PySem.W.Frag) : R2 := fun x y H Q => rI0 (fun i j => .bl (decide (i < j))) x y H Q ∨ rLtT K x y H Q
theorem op_ltA (hu : X.A.units < cLine) : OpR X (compareOp .Lt) (rLtA X.K) := op_lt.or (op_ltT hu)
theorem s_ltA {K : PySem.W.Frag} : OpS B (rLtA K) fLtA := s_lt.or s_ltT
def fInA : Val → Val → Option Val := fun a b => (fIn false a b).or (fInD false a b)
def rInA (K : PySem.W.Frag) : R2 := fun x y H Q => rIn K false x y H Q ∨ rInD K x y H Q
theorem op_inA (hu : X.A.units + 65 < cLine) : OpR X (compareOp .In) (rInA X.K) := op_in_seq.or (op_inD hu)
theorem s_inA {K : PySem.W.Frag} : OpS B (rInA K) fInA := s_in.or s_inD
def fNotInA : Val → Val → Option Val := fun a b => (fIn true a b).or (fInD true a b)
def rNotInA (K : PySem.W.Frag) : R2 := fun x y H Q => rIn K true x y H Q ∨ rNotInD K x y H Q
theorem op_notInA (hu : X.A.units + 65 < cLine) : OpR X (compareOp .NotIn) (rNotInA X.K) := op_notIn_seq.or (op_notInD hu)
theorem s_notInA {K : PySem.W.Frag} : OpS B (rNotInA K) fNotInA := s_in.or s_notInD
theorem u65 {A : Around} (hr : Room k A) : A.units + 65 < cLine := by
  have := hr.un
  omega
/-! a chain of two -/
def dChain {R : Rsc} (f f' : Val → Val → Option Val) (ga gb gc : Den R) : Den R := fun τ => (ga τ).bind fun p => (gb p.2).bind fun q => match f p.1 q.1 with
  | some (.sh (.bool true)) => (gc q.2).bind fun r => match f' q.1 r.1 with
    | some c => .ok (c, r.2)
    | none => .bad
  | some (.sh (.bool false)) => .ok (.sh (.bool false), q.2)
  | _ => .bad
theorem snd_chain {r r' : R2} {f f' : Val → Val → Option Val} (ho : OpS B r f) (ho' : OpS B r' f') (ha : SndE B ta ga) (hb : SndE B tb gb) (hc : SndE B tc gc) : SndE B (tChain r r' ta tb tc) (dChain f f' ga gb gc) := by
  intro S H σ τ Q R h
  refine ha S H σ τ _ R (Sat.step (f := fun p => (gb p.2).bind fun q => match f p.1 q.1 with
    | some (.sh (.bool true)) => (gc q.2).bind fun r => match f' q.1 r.1 with
      | some c => .ok (c, r.2)
      | none => .bad
    | some (.sh (.bool false)) => .ok (.sh (.bool false), q.2)
    | _ => .bad) h fun a τ1 v S1 H1 _ G1 R1 o1 _ h1 => ?_)
  refine hb S1 H1 σ τ1 _ R1 (Sat.step (f := fun q => match f a q.1 with
    | some (.sh (.bool true)) => (gc q.2).bind fun r => match f' q.1 r.1 with
      | some c => .ok (c, r.2)
      | none => .bad
    | some (.sh (.bool false)) => .ok (.sh (.bool false), q.2)
    | _ => .bad) h1 fun b τ2 w S2 H2 _ G2 R2 o2 _ h2 => ?_)
  cases e : f a b with
  | none =>
    simp only [e] at h2
    exact h2.elim
  | some z =>
    simp only [e] at h2
    refine ho S2 H2 σ τ2 v w a b z _ R2 (VOk.gro G2 o1) o2 e fun x S3 H3 G3 R3 k3 _ => ?_
    cases z with
    | sh d =>
      cases d with
      | bool k =>
        cases k3
        refine ⟨k, rfl, ?_⟩
        cases k with
        | false =>
          rw [if_neg Bool.false_ne_true]
          exact h2 _ S3 H3 G3 R3 (Dq.bl false) frS
        | true =>
          rw [if_pos rfl]
          have h3 : Sat B (okV B σ) S3 H3 τ2 ((gc τ2).bind fun r => match f' b r.1 with
            | some c => .ok (c, r.2)
            | none => .bad) Q := Sat.shift G3 h2
          refine hc S3 H3 σ τ2 _ R3 (Sat.step h3 fun c τ3 w' S4 H4 _ G4 R4 o4 _ h4 => ?_)
          cases e' : f' b c with
          | none =>
            simp only [e'] at h4
            exact h4.elim
          | some z =>
            simp only [e'] at h4
            exact ho' S4 H4 σ τ3 w w' b c z Q R4 (VOk.gro G4 (VOk.gro G3 o2)) o4 e' fun x S' H' G R k f => h4 x S' H' G R k f
      | _ => exact h2.elim
    | _ => exact h2.elim
theorem de_chain {op op' : CmpOp} {r r' : R2} {f f' : Val → Val → Option Val} (ho : OpR X (compareOp op) r) (hs : OpS B r f) (ho' : OpR X (compareOp op') r') (hs' : OpS B r' f') (ha : DE B X a ta ga) (hb : DE B X b tb gb) (hc : DE B X c tc gc)
    (hm : lastMarks [op, op'] [b, c] = false := by with_unfolding_all rfl) : DE B X (.Compare a [op, op'] [b, c] pos) (tChain r r' ta tb tc) (dChain f f' ga gb gc) := ⟨pe_chain ho ho' ha.pe hb.pe hc.pe hm, snd_chain hs hs' ha.sd hb.sd hc.sd⟩
theorem dt_chain {op op' : CmpOp} {r r' : R2} {f f' : Val → Val → Option Val} (ho : OpR X (compareOp op) r) (hs : OpS B r f) (ho' : OpR X (compareOp op') r') (hs' : OpS B r' f') (ha : DE B X a ta ga) (hb : DE B X b tb gb) (hc : DE B X c tc gc)
    (hm : lastMarks [op, op'] [b, c] = false := by with_unfolding_all rfl) : DT B X (.Compare a [op, op'] [b, c] pos) (tTest (tChain r r' ta tb tc)) (dTest (dChain f f' ga gb gc)) := ⟨pt_chain ho ho' ha.pe hb.pe hc.pe hm, snd_test (snd_chain hs hs' ha.sd hb.sd hc.sd)⟩
end
section
variable {X : Cx} {B : Bs} {a b c e : Expr} {es rest : List Expr} {ta tb tc te : TE} {ga gb gc ge : Den B.R} {pos : Pos} {k : Nat} {sA sB : TT} {hA hB : DenT B.R}
/-! ### and, or, not, if .. else -/
structure DW (B : Bs) (X : Cx) (e : Expr) (t : TT) (g : DenT B.R) : Prop where
  pe : PW X e t
  sd : SndT B t g
theorem DW.dt (h : DW B X e sA hA) : DT B X e sA hA := ⟨h.pe.pt, h.sd⟩
def dAnd {R : Rsc} (g h : DenT R) : DenT R := fun τ => (g τ).bind fun p => if p.1 = true then h p.2 else .ok (false, p.2)
def dOr {R : Rsc} (g h : DenT R) : DenT R := fun τ => (g τ).bind fun p => if p.1 = true then .ok (true, p.2) else h p.2
def dNot {R : Rsc} (g : DenT R) : DenT R := fun τ => (g τ).bind fun p => .ok (!p.1, p.2)
theorem snd_and (ha : SndT B sA hA) (hb : SndT B sB hB) : SndT B (tAnd sA sB) (dAnd hA hB) := by
  intro S H σ τ Q R h
  refine ha S H σ τ _ R (Sat.step (f := fun p => if p.1 = true then hB p.2 else .ok (false, p.2)) h fun a τ1 v S1 H1 _ G1 R1 o1 _ h1 => ?_)
  have o1 : v = a := o1
  subst o1
  cases v with
  | true =>
    simp only [if_true] at h1 ⊢
    exact hb S1 H1 σ τ1 Q R1 h1
  | false =>
    simp only [Bool.false_eq_true, if_false] at h1 ⊢
    exact h1 false S1 H1 .refl R1 rfl trivial
theorem snd_or (ha : SndT B sA hA) (hb : SndT B sB hB) : SndT B (tOr sA sB) (dOr hA hB) := by
  intro S H σ τ Q R h
  refine ha S H σ τ _ R (Sat.step (f := fun p => if p.1 = true then .ok (true, p.2) else hB p.2) h fun a τ1 v S1 H1 _ G1 R1 o1 _ h1 => ?_)
  have o1 : v = a := o1
  subst o1
  cases v with
  | true =>
    simp only [if_true] at h1 ⊢
    exact h1 true S1 H1 .refl R1 rfl trivial
  | false =>
    simp only [Bool.false_eq_true, if_false] at h1 ⊢
    exact hb S1 H1 σ τ1 Q R1 h1
theorem snd_not (ha : SndT B sA hA) : SndT B (tNot sA) (dNot hA) := by
  intro S H σ τ Q R h
  refine ha S H σ τ _ R (Sat.step (f := fun p => .ok (!p.1, p.2)) h fun a τ1 v S1 H1 _ G1 R1 o1 _ h1 => ?_)
  have o1 : v = a := o1
  subst o1
  exact h1 _ S1 H1 .refl R1 rfl trivial
theorem dw_and1 (ha : DT B X a sA hA) : DW B X (.BoolOp .And [a] pos) sA hA := ⟨pw_and1 ha.pe, ha.sd⟩
theorem dw_or1 (ha : DT B X a sA hA) : DW B X (.BoolOp .Or [a] pos) sA hA := ⟨pw_or1 ha.pe, ha.sd⟩
theorem dw_and (ha : DT B X a sA hA) (hb : DW B X (.BoolOp .And (b :: rest) pos) sB hB) : DW B X (.BoolOp .And (a :: b :: rest) pos) (tAnd sA sB) (dAnd hA hB) := ⟨pw_and ha.pe hb.pe, snd_and ha.sd hb.sd⟩
theorem dw_or (ha : DT B X a sA hA) (hb : DW B X (.BoolOp .Or (b :: rest) pos) sB hB) : DW B X (.BoolOp .Or (a :: b :: rest) pos) (tOr sA sB) (dOr hA hB) := ⟨pw_or ha.pe hb.pe, snd_or ha.sd hb.sd⟩
theorem dt_not (ha : DT B X a sA hA) : DT B X (.UnaryOp .Not a pos) (tNot sA) (dNot hA) := ⟨pt_not ha.pe, snd_not ha.sd⟩
/-! as values -/
def dBool {R : Rsc} (g : DenT R) : Den R := fun τ => (g τ).bind fun p => .ok (.sh (.bool p.1), p.2)
def dAndV {R : Rsc} (g h : Den R) : Den R := fun τ => (g τ).bind fun p => match p.1 with
  | .sh (.bool true) => h p.2
  | .sh (.bool false) => .ok (.sh (.bool false), p.2)
  | _ => .bad
def dOrV {R : Rsc} (g h : Den R) : Den R := fun τ => (g τ).bind fun p => match p.1 with
  | .sh (.bool false) => h p.2
  | .sh (.bool true) => .ok (.sh (.bool true), p.2)
  | _ => .bad
def dNotV {R : Rsc} (g : Den R) : Den R := fun τ => (g τ).bind fun p => match p.1 with
  | .sh (.bool b) => .ok (.sh (.bool (!b)), p.2)
  | _ => .bad
theorem de_one {op} (h : DE B X a ta ga) : DE B X (.BoolOp op [a] pos) ta ga := ⟨pe_one h.pe, h.sd⟩
theorem de_and (ha : DE B X a ta ga) (hb : DE B X (.BoolOp .And (b :: rest) pos) tb gb) : DE B X (.BoolOp .And (a :: b :: rest) pos) (tAndV ta tb) (dAndV ga gb) := by
  refine ⟨pe_and ha.pe hb.pe, fun S H σ τ Q R h => ha.sd S H σ τ _ R (Sat.step (f := fun p => match p.1 with
    | .sh (.bool true) => gb p.2
    | .sh (.bool false) => .ok (.sh (.bool false), p.2)
    | _ => .bad) h fun x τ1 v S1 H1 _ G1 R1 o1 f1 h1 => ?_)⟩
  cases x with
  | sh d =>
    cases d with
    | bool c =>
      cases o1
      refine ⟨c, rfl, ?_⟩
      cases c with
      | true => exact (if_pos rfl).mpr (hb.sd S1 H1 σ τ1 Q R1 h1)
      | false => exact (if_neg Bool.false_ne_true).mpr (h1 _ S1 H1 .refl R1 (Dq.bl false) frS)
    | _ => exact h1.elim
  | _ => exact h1.elim
theorem de_or (ha : DE B X a ta ga) (hb : DE B X (.BoolOp .Or (b :: rest) pos) tb gb) : DE B X (.BoolOp .Or (a :: b :: rest) pos) (tOrV ta tb) (dOrV ga gb) := by
  refine ⟨pe_or ha.pe hb.pe, fun S H σ τ Q R h => ha.sd S H σ τ _ R (Sat.step (f := fun p => match p.1 with
    | .sh (.bool false) => gb p.2
    | .sh (.bool true) => .ok (.sh (.bool true), p.2)
    | _ => .bad) h fun x τ1 v S1 H1 _ G1 R1 o1 f1 h1 => ?_)⟩
  cases x with
  | sh d =>
    cases d with
    | bool c =>
      cases o1
      refine ⟨c, rfl, ?_⟩
      cases c with
      | true => exact (if_pos rfl).mpr (h1 _ S1 H1 .refl R1 (Dq.bl true) frS)
      | false => exact (if_neg Bool.false_ne_true).mpr (hb.sd S1 H1 σ τ1 Q R1 h1)
    | _ => exact h1.elim
  | _ => exact h1.elim
theorem de_not (ha : DE B X a ta ga) : DE B X (.UnaryOp .Not a pos) (tNotV ta) (dNotV ga) := by
  refine ⟨pe_not ha.pe, fun S H σ τ Q R h => ha.sd S H σ τ _ R (Sat.step (f := fun p => match p.1 with
    | .sh (.bool b) => .ok (Val.sh (.bool (!b)), p.2)
    | _ => .bad) h fun x τ1 v S1 H1 _ G1 R1 o1 f1 h1 => ?_)⟩
  cases x with
  | sh d =>
    cases d with
    | bool c =>
      cases o1
      exact ⟨c, rfl, h1 _ S1 H1 .refl R1 (Dq.bl _) frS⟩
    | _ => exact h1.elim
  | _ => exact h1.elim
def dIf {R : Rsc} (t : DenT R) (g h : Den R) : Den R := fun τ => (t τ).bind fun p => if p.1 = true then g p.2 else h p.2
theorem de_if (hc : DT B X c sA hA) (ha : DE B X a ta ga) (hb : DE B X b tb gb) : DE B X (.IfExp c a b pos) (tIf sA ta tb) (dIf hA ga gb) := by
  refine ⟨pe_ifExp hc.pe ha.pe hb.pe, fun S H σ τ Q R h => hc.sd S H σ τ _ R (Sat.step (f := fun p => if p.1 = true then ga p.2 else gb p.2) h fun x τ1 v S1 H1 _ G1 R1 o1 f1 h1 => ?_)⟩
  have o1 : v = x := o1
  subst o1
  cases v with
  | true => exact (if_pos rfl).mpr (ha.sd S1 H1 σ τ1 Q R1 h1)
  | false => exact (if_neg Bool.false_ne_true).mpr (hb.sd S1 H1 σ τ1 Q R1 h1)

/-! ### sharing: what is new is frozen from here on -/
def dSh {R : Rsc} (g : Den R) : Den R := fun τ => (g τ).bind fun p => match p.1 with
  | .sh d => .ok (.sh d, p.2)
  | .fr ds => .ok (.sh (.list ds), p.2)
  | .rw v => .ok (.rw v, p.2)
  | _ => .bad
theorem de_sh (ha : DE B X a ta ga) : DE B X a ta (dSh ga) := by
  refine ⟨ha.pe, fun S H σ τ Q R h => ha.sd S H σ τ _ R ?_⟩
  unfold dSh at h
  cases e : ga τ with
  | bad => rw [e] at h; exact h
  | exc x => rw [e] at h; exact h
  | ok p =>
    obtain ⟨x, τ1⟩ := p
    rw [e, Out.bind_ok] at h
    intro v S1 H1 G1 R1 o1 f1
    cases x with
    | sh d => exact h v S1 H1 G1 R1 o1 frS
    | rw w => exact h v S1 H1 G1 R1 o1 frR
    | fr ds =>
      obtain ⟨p, vs, rfl, q1, q2, q3, q4, q5, q6⟩ := o1
      have R2 := R1.freeze q1 q2 q3 q4 q5
      have sm : Same S1 (upd S1 p (.lst vs)) := fun b u e => by
        rw [upd_ne (ne_of_none e q2)]
        exact e
      refine h _ (upd S1 p (.lst vs)) H1 ⟨G1.s.trans sm, G1.h, fun b u e => ?_, G1.o⟩ R2 (Dq.lst upd_same (q6.mono sm)) frS
      by_cases z : b = p
      · subst z
        exact .inr (f1 rfl _ rfl)
      · rw [upd_ne z] at e
        exact G1.n b u e
    | _ => exact h.elim
end
end Kn
set_option Elab.async false
set_option linter.all false
set_option maxRecDepth 100000
set_option maxHeartbeats 4000000
namespace Kn
open PySem PySem.Spec L2
open PyProof.Rows hiding St

/-! ### arguments, displays -/
def dNil {R : Rsc} : DenA R := fun τ => .ok ([], τ)
def dCons {R : Rsc} (g : Den R) (h : DenA R) : DenA R := fun τ => (g τ).bind fun p => (h p.2).bind fun q => .ok (p.1 :: q.1, q.2)
def allSh : List Val → Option (List PyData)
  | [] => some []
  | .sh d :: r => (allSh r).map (d :: ·)
  | _ :: _ => none
def allData : List Val → Option (List PyData)
  | [] => some []
  | v :: r => match v.data with
    | some d => (allData r).map (d :: ·)
    | none => none
section
variable {X : Cx} {B : Bs} {a b c e : Expr} {es rest : List Expr} {ta tb tc te : TE} {ga gb gc ge : Den B.R} {pos : Pos} {k : Nat} {t : TA} {g : DenA B.R}
theorem snd_cons (ha : SndE B ta ga) (hr : SndA B t g) : SndA B (tCons ta t) (dCons ga g) := by
  intro S H σ τ Q R h
  refine ha S H σ τ _ R (Sat.step (f := fun p => (g p.2).bind fun q => .ok (p.1 :: q.1, q.2)) h fun x τ1 v S1 H1 _ G1 R1 o1 _ h1 => ?_)
  refine hr S1 H1 σ τ1 _ R1 (Sat.step (f := fun q => .ok (x :: q.1, q.2)) h1 fun xs τ2 vs S2 H2 _ G2 R2 o2 _ h2 => ?_)
  exact h2 _ S2 H2 .refl R2 (.cons (VOk.gro G2 o1) o2) trivial
theorem da_nil : DA B X [] tNil (dNil (R := B.R)) := ⟨pa_nil, fun S H σ τ Q R h => h [] S H .refl R .nil trivial⟩
theorem da_cons (ha : DE B X e te ge) (hr : DA B X es t g) (hs : starEach (e :: es) X.env = (false, eval e X.env) :: starEach es X.env := by rfl) : DA B X (e :: es) (tCons te t) (dCons ge g) := ⟨pa_cons ha.pe hr.pe hs, snd_cons ha.sd hr.sd⟩
theorem allSh_ok {S H : Hp} {σ : St} {sl : List Sl} : ∀ {vs : List V} {vals : List Val} {ds : List PyData}, Paired (fun v val => VOk B S H σ sl v val) vs vals → allSh vals = some ds → DqA S vs ds
  | _, _, _, .nil, e => by
    cases e
    exact .nil
  | _, _, ds, .cons (b := val) a r, e => by
    cases val with
    | sh d =>
      obtain ⟨ds', e1, e2⟩ := Option.map_eq_some_iff.mp e
      subst e2
      exact .cons a (allSh_ok r e1)
    | _ => cases e
def dTup {R : Rsc} (g : DenA R) : Den R := fun τ => (g τ).bind fun p => match allSh p.1 with
  | some ds => if ds.length ≤ sizeLine then .ok (.sh (.tuple ds), p.2) else .bad
  | none => .bad
def dLst {R : Rsc} (g : DenA R) : Den R := fun τ => (g τ).bind fun p => match allSh p.1 with
  | some ds => if ds.length ≤ sizeLine then .ok (.fr ds, p.2) else .bad
  | none => .bad
theorem de_tup {x1} (h : DA B X es t g) : DE B X (.Tuple es x1 pos) (tTupF t) (dTup g) := by
  refine ⟨pe_tupF h.pe, fun S H σ τ Q R q => h.sd S H σ τ _ R (Sat.step (f := fun p => match allSh p.1 with
    | some ds => if ds.length ≤ sizeLine then .ok (Val.sh (.tuple ds), p.2) else .bad
    | none => .bad) q fun x τ1 vs S1 H1 _ G1 R1 o1 _ h1 => ?_)⟩
  cases e : allSh x with
  | none => simp only [e] at h1; exact h1.elim
  | some ds =>
    simp only [e] at h1
    have kk := allSh_ok (B := B) o1 e
    by_cases z : ds.length ≤ sizeLine
    · rw [if_pos z] at h1
      refine ⟨by rw [kk.len]; exact z, fun p o hp hn => ?_⟩
      obtain ⟨g2, r2, k2⟩ := lay_tup R1 hp hn kk
      exact h1 _ _ _ g2 r2 k2 frS
    · rw [if_neg z] at h1
      exact h1.elim
theorem de_lst (h : DA B X es t g) : DE B X (.List es pos) (tLst t) (dLst g) := by
  refine ⟨pe_lst h.pe, fun S H σ τ Q R q => h.sd S H σ τ _ R (Sat.step (f := fun p => match allSh p.1 with
    | some ds => if ds.length ≤ sizeLine then .ok (Val.fr ds, p.2) else .bad
    | none => .bad) q fun x τ1 vs S1 H1 _ G1 R1 o1 _ h1 => ?_)⟩
  cases e : allSh x with
  | none => simp only [e] at h1; exact h1.elim
  | some ds =>
    simp only [e] at h1
    have kk := allSh_ok (B := B) o1 e
    by_cases z : ds.length ≤ sizeLine
    · rw [if_pos z] at h1
      refine ⟨by rw [kk.len]; exact z, fun p hp => ?_⟩
      obtain ⟨g2, r2, k2, f2⟩ := lay_lst R1 hp kk
      exact h1 _ _ _ g2 r2 k2 f2
    · rw [if_neg z] at h1
      exact h1.elim

/-! ### subscripts and slices -/
theorem de_ix (ha : DE B X a ta ga) (hb : DE B X b tb gb) (hs : PlainIx b := by exact fun _ _ => rfl) : DE B X (.Subscript a b pos) (tOp (rIx X.K) ta tb) (dOp fIx ga gb) := ⟨pe_ix ix_seq ha.pe hb.pe hs, snd_op s_ix ha.sd hb.sd⟩
abbrev DenO (R : Rsc) := Tau R → Out (Exn R) (Option Int × Tau R)
def okO (B : Bs) (σ : St) : Okk B σ (Option Int) (Option Int) := ⟨fun _ _ _ b c => b = c, fun _ _ _ _ => True, fun _ _ => trivial⟩
structure DO (B : Bs) (X : Cx) (e : Option Expr) (t : TO) (g : DenO B.R) : Prop where
  pe : PO X e t
  sd : ∀ S H σ (τ : Tau B.R) Q, Rel B S H σ τ → Sat B (okO B σ) S H τ (g τ) Q → t σ H Q
def dNoPart {R : Rsc} : DenO R := fun τ => .ok (none, τ)
def dPart {R : Rsc} (g : Den R) : DenO R := fun τ => (g τ).bind fun p => match p.1.int with
  | some i => .ok (some i, p.2)
  | none => .bad
theorem do_none : DO B X none tNoPart (dNoPart (R := B.R)) := ⟨po_none, fun S H σ τ Q R h => h none S H .refl R rfl trivial⟩
theorem do_some (h : DE B X e te ge) : DO B X (some e) (tPart te) (dPart ge) := by
  refine ⟨po_some h.pe, fun S H σ τ Q R q => h.sd S H σ τ _ R (Sat.step (f := fun p => match p.1.int with
    | some i => .ok (some i, p.2)
    | none => .bad) q fun x τ1 v S1 H1 _ G1 R1 o1 _ h1 => ?_)⟩
  cases e : x.int with
  | none => simp only [e] at h1; exact h1.elim
  | some i =>
    simp only [e] at h1
    obtain ⟨rfl, _⟩ := VOk.int o1 e
    exact ⟨i, rfl, h1 _ S1 H1 .refl R1 rfl trivial⟩
def cutL {α : Type} (xs : List α) (lo hi : Option Int) : List α := (xs.drop (HT.sIx xs.length 0 lo)).take (HT.sIx xs.length xs.length hi - HT.sIx xs.length 0 lo)
theorem DqA.cut {S : Hp} {vs : List V} {ds : List PyData} (k : DqA S vs ds) (lo hi : Option Int) : DqA S (cutV vs lo hi) (cutL ds lo hi) := by
  unfold cutV cutL
  rw [k.len]
  exact (k.drop _).take _
theorem cut_whole {α : Type} (xs : List α) (lo hi : Option Int) (h : HT.sIx xs.length 0 lo = 0 ∧ HT.sIx xs.length xs.length hi = xs.length) : cutL xs lo hi = xs := by
  unfold cutL
  rw [h.1, h.2]
  simp
def fSl (a : Val) (lo hi : Option Int) : Option Val := match a.tup, a.lst with
  | some ds, _ => some (.sh (.tuple (cutL ds lo hi)))
  | none, some ds => some (.fr (cutL ds lo hi))
  | none, none => none
def dSl {R : Rsc} (g : Den R) (l h : DenO R) : Den R := fun τ => (g τ).bind fun p => (l p.2).bind fun q => (h q.2).bind fun r => match fSl p.1 q.1 r.1 with
  | some c => .ok (c, r.2)
  | none => .bad
def rSlB (K : PySem.W.Frag) : V → Option Int → Option Int → Hp → VK → Prop := fun x lo hi H Q => rSlF K x lo hi H Q ∨ rSlL K x lo hi H Q
theorem de_slice {lo hi : Option Expr} {tl th : TO} {gl gh : DenO B.R} {p2 : Pos} (ha : DE B X e te ge) (hl : DO B X lo tl gl) (hh : DO B X hi th gh) : DE B X (.Subscript e (.Slice lo hi none p2) pos) (tSl (rSlB X.K) te tl th) (dSl ge gl gh) := by
  refine ⟨pe_slice (sl_tupF.or sl_list) ha.pe hl.pe hh.pe, fun S H σ τ Q R q => ha.sd S H σ τ _ R (Sat.step (f := fun p => (gl p.2).bind fun q => (gh q.2).bind fun r => match fSl p.1 q.1 r.1 with
    | some c => .ok (c, r.2)
    | none => .bad) q fun x τ1 v S1 H1 _ G1 R1 o1 _ h1 => ?_)⟩
  refine hl.sd S1 H1 σ τ1 _ R1 (Sat.step (f := fun q => (gh q.2).bind fun r => match fSl x q.1 r.1 with
    | some c => .ok (c, r.2)
    | none => .bad) h1 fun l τ2 l' S2 H2 _ G2 R2 o2 _ h2 => ?_)
  refine hh.sd S2 H2 σ τ2 _ R2 (Sat.step (f := fun r => match fSl x l r.1 with
    | some c => .ok (c, r.2)
    | none => .bad) h2 fun u τ3 u' S3 H3 _ G3 R3 o3 _ h3 => ?_)
  have o2 : l' = l := o2
  have o3 : u' = u := o3
  subst o2 o3
  have k := VOk.gro G3 (VOk.gro G2 o1)
  unfold fSl at h3
  cases e1 : x.tup with
  | some ds =>
    simp only [e1] at h3
    obtain ⟨p, o, vs, rfl, q1, qn, q2⟩ := VOk.tup k e1
    refine .inl ⟨p, vs, rfl, sqtF (R3.sub _ _ q1), fun w => ?_, fun w t o ht hn => ?_⟩
    · rw [cut_whole ds l' u' (by rw [← q2.len]; exact w)] at h3
      exact h3 _ _ _ .refl R3 (Dq.tup q1 qn q2) frS
    · obtain ⟨g2, r2, k2⟩ := lay_tup R3 ht hn (q2.cut l' u')
      exact h3 _ _ _ g2 r2 k2 frS
  | none =>
    cases e2 : x.lst with
    | none => simp only [e1, e2] at h3; exact h3.elim
    | some ds =>
      simp only [e1, e2] at h3
      obtain ⟨p, vs, rfl, q1, _, q2⟩ := VOk.lst R3 k e2
      refine .inr ⟨p, vs, rfl, SqL.of q1, fun t ht => ?_⟩
      obtain ⟨g2, r2, k2, f2⟩ := lay_lst R3 ht (q2.cut l' u')
      exact h3 _ _ _ g2 r2 k2 f2

/-! ### calls of built-ins -/
def dCB {R : Rsc} (f : List Val → Option Val) (g : DenA R) : Den R := fun τ => (g τ).bind fun p => match f p.1 with
  | some c => .ok (c, p.2)
  | none => .bad
theorem snd_cb {r : List V → Hp → VK → Prop} {f : List Val → Option Val} (hs : CallS B r f) (ha : SndA B t g) : SndE B (tCB r t) (dCB f g) := by
  refine fun S H σ τ Q R q => ha S H σ τ _ R (Sat.step (f := fun p => match f p.1 with
    | some c => .ok (c, p.2)
    | none => .bad) q fun x τ1 vs S1 H1 _ G1 R1 o1 _ h1 => ?_)
  cases e : f x with
  | none => simp only [e] at h1; exact h1.elim
  | some c =>
    simp only [e] at h1
    exact hs S1 H1 σ τ1 vs x c Q R1 o1 e fun y S' H' G R k fr => h1 y S' H' G R k fr
theorem de_cb {x : Str} {p : Pos} {id : String} {r : List V → Hp → VK → Prop} {f : List Val → Option Val} (hc : CallR X (.builtin id) r) (hs : CallS B r f) (hg : Gl X x) (hm : X.mg x = none) (hv : bootBuiltins x = some (.builtin id)) (ha : DA B X (e :: es) t g) (hn : x ≠ "__name__" := by decide) (hdb : (x == ("__debug__" : Str)) = false := by decide)
    (he : starEach (e :: es) X.env = (false, eval e X.env) :: starEach es X.env := by rfl) (hpl : (backTo pos (starEach es X.env)).any (·.1) = false := by rfl) : DE B X (.Call (.Name x p) (e :: es) [] pos) (tCB r t) (dCB f g) :=
  ⟨pe_callB hc hg hm hv ha.pe hn hdb he hpl, snd_cb hs ha.sd⟩
theorem de_cty {x : Str} {p : Pos} {T : String} {r : List V → Hp → VK → Prop} {f : List Val → Option Val} (hc : CallR X (.type T) r) (hs : CallS B r f) (hg : Gl X x) (hm : X.mg x = none) (hv : bootBuiltins x = some (.type T)) (ha : DA B X (e :: es) t g) (hn : x ≠ "__name__" := by decide) (hdb : (x == ("__debug__" : Str)) = false := by decide)
    (he : starEach (e :: es) X.env = (false, eval e X.env) :: starEach es X.env := by rfl) (hpl : (backTo pos (starEach es X.env)).any (·.1) = false := by rfl) : DE B X (.Call (.Name x p) (e :: es) [] pos) (tCB r t) (dCB f g) :=
  ⟨pe_callTy hc hg hm hv ha.pe hn hdb he hpl, snd_cb hs ha.sd⟩
/-- len -/
def fLen : List Val → Option Val
  | [a] => a.seq.map fun ds => .sh (.int ds.length)
  | _ => none
theorem s_len {K : PySem.W.Frag} : CallS B (fun xs H Q => ∃ p ys, xs = [.ref p] ∧ (SqL K H p ys ∨ SqT K H p ys) ∧ Q (.int ys.length) H) fLen := by
  intro S H σ τ vs as c Q R ka e q
  cases ka with
  | nil => cases e
  | cons a r =>
    cases r with
    | cons _ _ => cases e
    | nil =>
      obtain ⟨ds, e1, e2⟩ := Option.map_eq_some_iff.mp (show (Val.seq _).map _ = _ from e)
      subst e2
      obtain ⟨p, ws, rfl, h, k⟩ := VOk.seq R a e1
      refine ⟨p, ws, rfl, ?_, ?_⟩
      · rcases h with h | ⟨o, h, _⟩
        · exact .inl (SqL.of h)
        · exact .inr (sqtF (R.sub _ _ h))
      · rw [k.len]
        exact q _ S H .refl R (Dq.int _) frS
/-- sum of a list of ints -/
def fSum : List Val → Option Val
  | [a] => (a.lst.bind asInts).map fun ns => .sh (.int ns.sum)
  | _ => none
theorem VOk.lstI {S H : Hp} {σ : St} {τ : Tau B.R} {v : V} {val : Val} {ns : List Int} (R : Rel B S H σ τ) (k : VOk B S H σ τ.sl v val) (e : val.lst.bind asInts = some ns) : ∃ a, v = .ref a ∧ H a = some (.lst (ns.map V.int)) := by
  obtain ⟨ds, e1, e2⟩ := Option.bind_eq_some_iff.mp e
  obtain ⟨a, vs, rfl, h, _, kk⟩ := VOk.lst R k e1
  rw [of_asInts e2] at kk
  rw [kk.of_nsD] at h
  exact ⟨a, rfl, h⟩
theorem s_sum {K : PySem.W.Frag} : CallS B (rSum K) fSum := by
  intro S H σ τ vs as c Q R ka e q
  cases ka with
  | nil => cases e
  | cons a r =>
    cases r with
    | cons _ _ => cases e
    | nil =>
      obtain ⟨ns, e1, e2⟩ := Option.map_eq_some_iff.mp (show (Option.bind _ _).map _ = _ from e)
      subst e2
      obtain ⟨p, rfl, h⟩ := VOk.lstI R a e1
      exact ⟨p, ns, rfl, SqL.of h, q _ S H .refl R (Dq.int _) frS⟩
/-! sorting of ints -/
def ins (x : Int) : List Int → List Int
  | [] => [x]
  | y :: r => if x ≤ y then x :: y :: r else y :: ins x r
def isort : List Int → List Int
  | [] => []
  | x :: r => ins x (isort r)
theorem ins_perm (x : Int) : ∀ l : List Int, (ins x l).Perm (x :: l)
  | [] => .refl _
  | y :: r => by
    unfold ins
    split
    · exact .refl _
    · exact ((ins_perm x r).cons y).trans (.swap x y r)
theorem isort_perm : ∀ l : List Int, (isort l).Perm l
  | [] => .refl _
  | x :: r => (ins_perm x (isort r)).trans ((isort_perm r).cons x)
theorem ins_sorted (x : Int) : ∀ l : List Int, l.Pairwise (· ≤ ·) → (ins x l).Pairwise (· ≤ ·)
  | [], _ => by simp [ins]
  | y :: r, h => by
    unfold ins
    rw [List.pairwise_cons] at h
    split
    · rename_i hxy
      refine List.pairwise_cons.mpr ⟨fun z hz => ?_, List.pairwise_cons.mpr h⟩
      rcases List.mem_cons.mp hz with rfl | hz
      · exact hxy
      · exact Int.le_trans hxy (h.1 z hz)
    · rename_i hxy
      refine List.pairwise_cons.mpr ⟨fun z hz => ?_, ins_sorted x r h.2⟩
      rcases List.mem_cons.mp ((ins_perm x r).mem_iff.mp hz) with rfl | hz
      · omega
      · exact h.1 z hz
theorem isort_sorted : ∀ l : List Int, (isort l).Pairwise (· ≤ ·)
  | [] => .nil
  | x :: r => ins_sorted x _ (isort_sorted r)
theorem sorted_one : ∀ {l m : List Int}, l.Perm m → l.Pairwise (· ≤ ·) → m.Pairwise (· ≤ ·) → l = m
  | [], m, p, _, _ => by
    have := p.length_eq
    cases m with
    | nil => rfl
    | cons _ _ => simp at this
  | x :: l, [], p, _, _ => by
    have := p.length_eq
    simp at this
  | x :: l, y :: m, p, h, h' => by
    rw [List.pairwise_cons] at h h'
    have e : x = y := by
      have m1 : x ∈ y :: m := p.mem_iff.mp List.mem_cons_self
      have m2 : y ∈ x :: l := p.mem_iff.mpr List.mem_cons_self
      rcases List.mem_cons.mp m1 with e | m1
      · exact e
      · rcases List.mem_cons.mp m2 with e | m2
        · exact e.symm
        · exact Int.le_antisymm (h.1 y m2) (h'.1 x m1)
    subst e
    rw [sorted_one (List.Perm.cons_inv p) h.2 h'.2]
theorem eq_isort {l m : List Int} (p : l.Perm m) (h : l.Pairwise (· ≤ ·)) : l = isort m := sorted_one (p.trans (isort_perm m).symm) h (isort_sorted m)
def fSorted : List Val → Option Val
  | [a] => (a.lst.bind asInts).map fun ns => .fr (nsD (isort ns))
  | _ => none
theorem s_sorted {K : PySem.W.Frag} : CallS B (rSortedI K) fSorted := by
  intro S H σ τ vs as c Q R ka e q
  cases ka with
  | nil => cases e
  | cons a r =>
    cases r with
    | cons _ _ => cases e
    | nil =>
      obtain ⟨ns, e1, e2⟩ := Option.map_eq_some_iff.mp (show (Option.bind _ _).map _ = _ from e)
      subst e2
      obtain ⟨p, rfl, h⟩ := VOk.lstI R a e1
      refine ⟨p, ns, rfl, SqL.of h, fun ns' t pm pw ht => ?_⟩
      rw [eq_isort pm pw]
      obtain ⟨g2, r2, k2, f2⟩ := lay_lst R ht (DqA.ints_ S (isort ns))
      exact q _ _ _ g2 r2 k2 f2
/-- tuple(..) of a list or a tuple -/
def fTuple : List Val → Option Val
  | [a] => a.seq.map fun ds => .sh (.tuple ds)
  | _ => none
theorem seq_tup {a : Val} {ds : List PyData} (e : a.seq = some ds) : a.lst = some ds ∨ a.tup = some ds := by
  cases a with
  | sh x =>
    cases x with
    | list xs => exact .inl e
    | tuple xs => exact .inr e
    | _ => cases e
  | fr _ => exact .inl e
  | bo _ => exact .inl e
  | _ => cases e
theorem s_tuple {K : PySem.W.Frag} : CallS B (rTupleF K) fTuple := by
  intro S H σ τ vs as c Q R ka e q
  cases ka with
  | nil => cases e
  | cons a r =>
    cases r with
    | cons _ _ => cases e
    | nil =>
      obtain ⟨ds, e1, e2⟩ := Option.map_eq_some_iff.mp (show (Val.seq _).map _ = _ from e)
      subst e2
      rcases seq_tup e1 with e1 | e1
      · obtain ⟨p, ws, rfl, h, _, k⟩ := VOk.lst R a e1
        refine ⟨p, ws, rfl, .inl ⟨SqL.of h, fun t o ht hn => ?_⟩⟩
        obtain ⟨g2, r2, k2⟩ := lay_tup R ht hn k
        exact q _ _ _ g2 r2 k2 frS
      · obtain ⟨p, o, ws, rfl, h, hn, k⟩ := VOk.tup a e1
        exact ⟨p, ws, rfl, .inr ⟨sqtF (R.sub _ _ h), q _ S H .refl R (Dq.tup h hn k) frS⟩⟩
/-- list(..) of a list or a tuple -/
def fList : List Val → Option Val
  | [a] => a.seq.map fun ds => .fr ds
  | _ => none
theorem s_list {K : PySem.W.Frag} : CallS B (fun xs H Q => ∃ p ys, xs = [.ref p] ∧ (SqL K H p ys ∨ SqT K H p ys) ∧ ∀ l, H l = none → Q (.ref l) (upd H l (.lst ys))) fList := by
  intro S H σ τ vs as c Q R ka e q
  cases ka with
  | nil => cases e
  | cons a r =>
    cases r with
    | cons _ _ => cases e
    | nil =>
      obtain ⟨ds, e1, e2⟩ := Option.map_eq_some_iff.mp (show (Val.seq _).map _ = _ from e)
      subst e2
      obtain ⟨p, ws, rfl, h, k⟩ := VOk.seq R a e1
      refine ⟨p, ws, rfl, ?_, fun t ht => ?_⟩
      · rcases h with h | ⟨o, h, _⟩
        · exact .inl (SqL.of h)
        · exact .inr (sqtF (R.sub _ _ h))
      · obtain ⟨g2, r2, k2, f2⟩ := lay_lst R ht k
        exact q _ _ _ g2 r2 k2 f2
/-- max(a, b), min(a, b) of ints -/
def f2N (h : Int → Int → Int) : List Val → Option Val
  | [a, b] => match a.int, b.int with
    | some i, some j => some (.sh (.int (h i j)))
    | _, _ => none
  | _ => none
theorem s_2N {h : Int → Int → Int} : CallS B (fun xs H Q => ∃ i j, xs = [.int i, .int j] ∧ Q (.int (h i j)) H) (f2N h) := by
  intro S H σ τ vs as c Q R ka e q
  unfold f2N at e
  split at e
  · rename_i x y
    split at e
    · rename_i i j e1 e2
      cases e
      cases ka with
      | cons a r =>
        cases r with
        | cons b r =>
          cases r
          obtain ⟨rfl, _⟩ := VOk.int a e1
          obtain ⟨rfl, _⟩ := VOk.int b e2
          exact ⟨i, j, rfl, q _ S H .refl R (Dq.int _) frS⟩
    · cases e
  · cases e
def fMax2 := f2N fun i j => if j > i then j else i
def fMin2 := f2N fun i j => if j < i then j else i
/-- int(..) of an int or a bool -/
def fInt : List Val → Option Val
  | [.sh (.int i)] => some (.sh (.int i))
  | [.sh (.bool b)] => some (.sh (.int (if b then 1 else 0)))
  | _ => none
theorem s_int : CallS B (fun xs H Q => (∃ i, xs = [.int i] ∧ Q (.int i) H) ∨ ∃ k, xs = [.bl k] ∧ Q (.int (if k then 1 else 0)) H) fInt := by
  intro S H σ τ vs as c Q R ka e q
  unfold fInt at e
  split at e
  · rename_i i
    cases e
    cases ka with
    | cons a r =>
      cases r
      cases a
      exact .inl ⟨i, rfl, q _ S H .refl R (Dq.int _) frS⟩
  · rename_i b
    cases e
    cases ka with
    | cons a r =>
      cases r
      cases a
      exact .inr ⟨b, rfl, q _ S H .refl R (Dq.int _) frS⟩
  · cases e
/-- all(..) of a list of bools -/
def fAll : List Val → Option Val
  | [a] => (a.lst.bind asBools).map fun bs => .sh (.bool (bs.all id))
  | _ => none
theorem s_all {K : PySem.W.Frag} : CallS B (rAll K) fAll := by
  intro S H σ τ vs as c Q R ka e q
  cases ka with
  | nil => cases e
  | cons a r =>
    cases r with
    | cons _ _ => cases e
    | nil =>
      obtain ⟨ns, e1, e2⟩ := Option.map_eq_some_iff.mp (show (Option.bind _ _).map _ = _ from e)
      subst e2
      obtain ⟨ds, e3, e4⟩ := Option.bind_eq_some_iff.mp e1
      obtain ⟨p, ws, rfl, h, _, kk⟩ := VOk.lst R a e3
      rw [of_asBools e4] at kk
      rw [kk.of_bools] at h
      exact ⟨p, ns, rfl, SqL.of h, q _ S H .refl R (Dq.bl _) frS⟩
/-- isinstance(x, T) -/
def tyName : PyData → String
  | .none => "NoneType"
  | .bool _ => "bool"
  | .int _ => "int"
  | .str _ => "str"
  | .list _ => "list"
  | .tuple _ => "tuple"
  | .dict _ => "dict"
def isTy (T : String) : PyData → Bool
  | .none => false
  | .bool _ => T == "bool" || T == "int"
  | .int _ => T == "int"
  | .str _ => T == "str"
  | .list _ => T == "list"
  | .tuple _ => T == "tuple"
  | .dict _ => T == "dict"
def tyOk (T : String) : Bool := T == "int" || T == "bool" || T == "str" || T == "list" || T == "tuple"
theorem kit_int : ∀ n ∈ ["NoneType", "bool", "int", "str", "list", "tuple"], kitB n "int" = some (n == "int" || n == "bool") := by decide +kernel
theorem kit_bool : ∀ n ∈ ["NoneType", "bool", "int", "str", "list", "tuple"], kitB n "bool" = some (n == "bool") := by decide +kernel
theorem kit_str : ∀ n ∈ ["NoneType", "bool", "int", "str", "list", "tuple"], kitB n "str" = some (n == "str") := by decide +kernel
theorem kit_list : ∀ n ∈ ["NoneType", "bool", "int", "str", "list", "tuple"], kitB n "list" = some (n == "list") := by decide +kernel
theorem kit_tuple : ∀ n ∈ ["NoneType", "bool", "int", "str", "list", "tuple"], kitB n "tuple" = some (n == "tuple") := by decide +kernel
theorem kit_all {T : String} (h : tyOk T = true) : ∀ n ∈ ["NoneType", "bool", "int", "str", "list", "tuple"], kitB n T = some (n == T || (n == "bool" && T == "int")) := by
  unfold tyOk at h
  simp only [Bool.or_eq_true, beq_iff_eq] at h
  rcases h with (((h | h) | h) | h) | h <;> subst h <;> decide +kernel
def fIsi (T : String) : List Val → Option Val
  | [a, .rw (.ty T')] => if T' = T ∧ tyOk T = true then match a.data with
    | some (.dict _) => none
    | some d => some (.sh (.bool (isTy T d)))
    | none => none
    else none
  | _ => none
theorem dq_ty {K : PySem.W.Frag} {S H : Hp} {σ : St} {τ : Tau B.R} {v : V} {a : Val} {d : PyData} (R : Rel B S H σ τ) (k : VOk B S H σ τ.sl v a) (e : a.data = some d) (nd : ∀ x, d ≠ .dict x) : TyX K H v (.type (tyName d)) := by
  have lst : ∀ ds, a.lst = some ds → TyX K H v (.type "list") := fun ds e => by
    obtain ⟨p, vs, rfl, h, _⟩ := VOk.lst R k e
    exact .base (.lst h)
  cases a with
  | sh x =>
    cases e
    cases k with
    | non => exact .base .non
    | bl b => exact .base (.bl b)
    | int i => exact .base (.int i)
    | str x => exact .base (.str x)
    | lst h q => exact lst _ rfl
    | tup h n q => exact .fTuple (R.sub _ _ h)
  | fr ds => cases e; exact lst _ rfl
  | bo ds => cases e; exact lst _ rfl
  | fd _ => cases e
  | bd _ => cases e
  | rw _ => cases e
theorem tyName_mem (d : PyData) (nd : ∀ x, d ≠ .dict x) : tyName d ∈ ["NoneType", "bool", "int", "str", "list", "tuple"] := by
  cases d <;> first | exact absurd rfl (nd _) | simp [tyName]
theorem isTy_eq {T : String} (h : tyOk T = true) (d : PyData) (nd : ∀ x, d ≠ .dict x) : isTy T d = (tyName d == T || (tyName d == "bool" && T == "int")) := by
  unfold tyOk at h
  simp only [Bool.or_eq_true, beq_iff_eq] at h
  cases d <;> first | exact absurd rfl (nd _) | (rcases h with (((h | h) | h) | h) | h <;> subst h <;> rfl)
theorem s_isi {K : PySem.W.Frag} {T : String} : CallS B (rIsi K) (fIsi T) := by
  intro S H σ τ vs as c Q R ka e q
  unfold fIsi at e
  split at e
  · rename_i a T'
    split at e
    · rename_i hT
      obtain ⟨rfl, hT⟩ := hT
      split at e
      · cases e
      · rename_i d nd ed
        cases e
        cases ka with
        | cons ka r =>
          cases r with
          | cons kt r =>
            cases r
            cases kt
            have nd' : ∀ x, d ≠ .dict x := fun x z => nd x z
            refine ⟨_, _, _, _, isTy T' d, rfl, .ty T', dq_ty R ka ed nd', ?_, q _ S H .refl R (Dq.bl _) frS⟩
            rw [isTy_eq hT d nd']
            exact kit_ty (kit_all hT _ (tyName_mem d nd'))
      · cases e
    · cases e
  · cases e
end
end Kn
set_option Elab.async false
set_option linter.all false
set_option maxRecDepth 100000
set_option maxHeartbeats 4000000
namespace Kn
open PySem PySem.Spec L2
open PyProof.Rows hiding St

/-! ### slots stored, slots forgotten -/
def Val.slot : Val → Option Sl
  | .sh d => some (.sh d)
  | .fr ds => some (.ow ds)
  | .fd kvs => some (.od kvs)
  | .rw v => some (.rw v)
  | _ => none
def wipeS (sl : List Sl) : List Nat → List Sl
  | [] => sl
  | v :: vs => (wipeS sl vs).set v .un
def Tau.wipe {R : Rsc} (τ : Tau R) (vs : List Nat) : Tau R := ⟨wipeS τ.sl vs, τ.γ⟩
theorem wipe_get (σ : St) (k : Nat) : ∀ vs : List Nat, (wipe σ vs)[k]? = if k ∈ vs then σ[k]?.map (fun _ => none) else σ[k]?
  | [] => rfl
  | v :: vs => by
    show ((wipe σ vs).set v none)[k]? = _
    rw [List.getElem?_set]
    have ih := wipe_get σ k vs
    by_cases e : v = k
    · subst e
      rw [if_pos rfl, if_pos List.mem_cons_self, wipe_length]
      by_cases h : v < σ.length
      · rw [if_pos h, List.getElem?_eq_getElem h]
        rfl
      · rw [if_neg h, List.getElem?_eq_none (Nat.le_of_not_lt h)]
        rfl
    · rw [if_neg e, ih]
      by_cases h : k ∈ vs
      · rw [if_pos h, if_pos (List.mem_cons_of_mem _ h)]
      · rw [if_neg h, if_neg (fun z => (List.mem_cons.mp z).elim (fun z => e z.symm) h)]
theorem wipeS_len (sl : List Sl) : ∀ vs : List Nat, (wipeS sl vs).length = sl.length
  | [] => rfl
  | v :: vs => by
    unfold wipeS
    rw [List.length_set, wipeS_len sl vs]
theorem wipeS_get (sl : List Sl) (k : Nat) : ∀ vs : List Nat, (wipeS sl vs)[k]? = if k ∈ vs then sl[k]?.map (fun _ => .un) else sl[k]?
  | [] => rfl
  | v :: vs => by
    show ((wipeS sl vs).set v .un)[k]? = _
    rw [List.getElem?_set]
    have ih := wipeS_get sl k vs
    by_cases e : v = k
    · subst e
      rw [if_pos rfl, if_pos List.mem_cons_self, wipeS_len]
      by_cases h : v < sl.length
      · rw [if_pos h, List.getElem?_eq_getElem h]
        rfl
      · rw [if_neg h, List.getElem?_eq_none (Nat.le_of_not_lt h)]
        rfl
    · rw [if_neg e, ih]
      by_cases h : k ∈ vs
      · rw [if_pos h, if_pos (List.mem_cons_of_mem _ h)]
      · rw [if_neg h, if_neg (fun z => (List.mem_cons.mp z).elim (fun z => e z.symm) h)]
theorem wipe_idem (σ : St) (vs : List Nat) : wipe (wipe σ vs) vs = wipe σ vs := by
  apply List.ext_getElem?
  intro k
  rw [wipe_get, wipe_get]
  by_cases h : k ∈ vs
  · rw [if_pos h, if_pos h]
    cases σ[k]? <;> rfl
  · rw [if_neg h]
theorem wipe_set {σ : St} {i : Nat} {x : Option V} {vs : List Nat} (h : i ∈ vs) : wipe (σ.set i x) vs = wipe σ vs := by
  apply List.ext_getElem?
  intro k
  rw [wipe_get, wipe_get, List.getElem?_set]
  by_cases e : i = k
  · subst e
    rw [if_pos h, if_pos h, if_pos rfl]
    by_cases l : i < σ.length
    · rw [if_pos l, List.getElem?_eq_getElem l]
      rfl
    · rw [if_neg l, List.getElem?_eq_none (Nat.le_of_not_lt l)]
  · rw [if_neg e]
theorem wipe_agree {σ σ' : St} {vs : List Nat} (hl : σ'.length = σ.length) (h : wipe σ' vs = wipe σ vs) {k : Nat} (n : k ∉ vs) : σ'[k]? = σ[k]? := by
  have e1 := wipe_get σ k vs
  have e2 := wipe_get σ' k vs
  rw [if_neg n] at e1 e2
  rw [← e1, ← e2, h]
def Uns (vs : List Nat) (sl : List Sl) : Prop := ∀ k ∈ vs, ∀ s, sl[k]? = some s → s = .un
theorem uns_wipe (sl : List Sl) (vs : List Nat) : Uns vs (wipeS sl vs) := by
  intro k hk s e
  rw [wipeS_get, if_pos hk] at e
  obtain ⟨x, _, rfl⟩ := Option.map_eq_some_iff.mp e
  rfl
theorem wipeS_id {sl : List Sl} {vs : List Nat} (h : Uns vs sl) : wipeS sl vs = sl := by
  apply List.ext_getElem?
  intro k
  rw [wipeS_get]
  by_cases hk : k ∈ vs
  · rw [if_pos hk]
    cases e : sl[k]? with
    | none => rfl
    | some s =>
      rw [h k hk s e]
      rfl
  · rw [if_neg hk]
section
variable {B : Bs} {S H : Hp} {σ σ' : St} {τ : Tau B.R} {vs : List Nat}
theorem own_off (agree : ∀ k, k ∉ vs → σ'[k]? = σ[k]?) {sl : List Sl} {b : Addr} (h : Own σ' (wipeS sl vs) b) : Own σ sl b := by
  obtain ⟨i, s, e1, e2, e3⟩ := h
  rw [wipeS_get] at e1
  by_cases hk : i ∈ vs
  · rw [if_pos hk] at e1
    obtain ⟨x, _, rfl⟩ := Option.map_eq_some_iff.mp e1
    cases e2
  · rw [if_neg hk] at e1
    exact ⟨i, s, e1, e2, by rw [← agree i hk]; exact e3⟩
theorem own_uns (agree : ∀ k, k ∉ vs → σ'[k]? = σ[k]?) {sl : List Sl} (u : Uns vs sl) {b : Addr} (h : Own σ' sl b) : Own σ sl b := own_off agree (by rw [wipeS_id u]; exact h)
theorem Rel.off (R : Rel B S H σ τ) (hl : σ'.length = σ.length) (agree : ∀ k, k ∉ vs → σ'[k]? = σ[k]?) : Rel B S H σ' (τ.wipe vs) := by
  have get : ∀ {k : Nat} {s : Sl}, (wipeS τ.sl vs)[k]? = some s → (s = .un) ∨ (k ∉ vs ∧ τ.sl[k]? = some s) := fun {k s} e => by
    rw [wipeS_get] at e
    by_cases hk : k ∈ vs
    · rw [if_pos hk] at e
      obtain ⟨x, _, rfl⟩ := Option.map_eq_some_iff.mp e
      exact .inl rfl
    · rw [if_neg hk] at e
      exact .inr ⟨hk, e⟩
  refine ⟨R.sub, R.ent, R.s0, R.new, R.mS, ?_, fun i s e => ?_, fun i j s s' b e1 e2 o1 o2 f1 f2 => ?_, R.res, R.m0⟩
  · show σ'.length = (wipeS τ.sl vs).length
    rw [wipeS_len, hl]
    exact R.len
  · rcases get e with rfl | ⟨n, e⟩
    · trivial
    · rw [agree i n]
      exact R.sl i s e
  · rcases get e1 with rfl | ⟨n1, e1⟩
    · cases o1
    · rcases get e2 with rfl | ⟨n2, e2⟩
      · cases o2
      · rw [agree i n1] at f1
        rw [agree j n2] at f2
        exact R.dis i j s s' b e1 e2 o1 o2 f1 f2
theorem Rel.offU (R : Rel B S H σ τ) (hl : σ'.length = σ.length) (agree : ∀ k, k ∉ vs → σ'[k]? = σ[k]?) (u : Uns vs τ.sl) : Rel B S H σ' τ := by
  have q := R.off hl agree
  have e : τ.wipe vs = τ := by
    show (⟨wipeS τ.sl vs, τ.γ⟩ : Tau B.R) = τ
    rw [wipeS_id u]
  rw [e] at q
  exact q
/-- the frozen part and what is owned, seen from other slots -/
theorem Gro.conv {σ2 : St} {S1 H1 : Hp} {sl sl' sl2 sl2' : List Sl} (g : Gro B σ2 S H sl2 S1 H1 sl2') (h1 : ∀ b, Own σ2 sl2 b → Own σ sl b) (h2 : ∀ b, Own σ sl' b → Own σ2 sl2' b) : Gro B σ S H sl S1 H1 sl' :=
  ⟨g.s, g.h, fun b o e => (g.n b o e).imp id fun z => ⟨z.1, z.2.imp id (h1 b)⟩, fun b e => h1 b (g.o b (h2 b e))⟩
theorem Rel.store (R : Rel B S H σ τ) {i : Nat} {v : V} {val : Val} {s : Sl} (k : VOk B S H σ τ.sl v val) (e : val.slot = some s) (hi : i < τ.sl.length) : Rel B S H (σ.set i (some v)) (τ.put i s) := by
  have hσ : i < σ.length := by rw [R.len]; exact hi
  have at_i : (σ.set i (some v))[i]? = some (some v) := by rw [List.getElem?_set_self hσ]
  have own_i : s.own = true → ∀ b, v = .ref b → ¬ Own σ τ.sl b := fun o b ev => by
    cases val with
    | fr ds =>
      obtain ⟨a, vs, e1, _, _, _, _, n, _⟩ := k
      rw [ev] at e1
      cases e1
      exact n
    | fd ds =>
      obtain ⟨a, vs, e1, _, _, _, _, n, _⟩ := k
      rw [ev] at e1
      cases e1
      exact n
    | sh d => cases e; cases o
    | rw d => cases e; cases o
    | bo d => cases e
    | bd d => cases e
  refine ⟨R.sub, R.ent, R.s0, R.new, R.mS, ?_, fun j s' e' => ?_, fun j l s1 s2 b e1 e2 o1 o2 f1 f2 => ?_, R.res, R.m0⟩
  · show (σ.set i (some v)).length = (τ.sl.set i s).length
    rw [List.length_set, List.length_set]
    exact R.len
  · have e' : (τ.sl.set i s)[j]? = some s' := e'
    by_cases z : i = j
    · subst z
      rw [List.getElem?_set_self hi] at e'
      cases e'
      rw [at_i]
      cases val with
      | sh d => cases e; exact ⟨v, rfl, k⟩
      | rw d => cases e; cases k; rfl
      | fr ds =>
        cases e
        obtain ⟨a, vs, rfl, q1, q2, q3, q4, n, q5⟩ := k
        exact ⟨a, vs, rfl, q1, q4, q2, q3, q5⟩
      | fd ds =>
        cases e
        obtain ⟨a, vs, rfl, q1, q2, q3, q4, n, q5⟩ := k
        exact ⟨a, vs, rfl, q1, q4, q2, q3, q5⟩
      | bo d => cases e
      | bd d => cases e
    · rw [List.getElem?_set_ne z] at e' ⊢
      exact R.sl j s' e'
  · have e1 : (τ.sl.set i s)[j]? = some s1 := e1
    have e2 : (τ.sl.set i s)[l]? = some s2 := e2
    by_cases z1 : i = j
    · by_cases z2 : i = l
      · rw [← z1, ← z2]
      · subst z1
        rw [List.getElem?_set_self hi] at e1
        cases e1
        rw [at_i] at f1
        rw [List.getElem?_set_ne z2] at e2 f2
        exact (own_i o1 b (Option.some.inj (Option.some.inj f1)) ⟨l, s2, e2, o2, f2⟩).elim
    · by_cases z2 : i = l
      · subst z2
        rw [List.getElem?_set_self hi] at e2
        cases e2
        rw [at_i] at f2
        rw [List.getElem?_set_ne z1] at e1 f1
        exact (own_i o2 b (Option.some.inj (Option.some.inj f2)) ⟨j, s1, e1, o1, f1⟩).elim
      · rw [List.getElem?_set_ne z1] at e1 f1
        rw [List.getElem?_set_ne z2] at e2 f2
        exact R.dis j l s1 s2 b e1 e2 o1 o2 f1 f2
/-- a slot stored with a frozen thing owns nothing new -/
theorem own_store {i : Nat} {v : V} {s : Sl} (hs : s.own = false) {b : Addr} (h : Own (σ.set i (some v)) (τ.put i s).sl b) : Own σ τ.sl b := by
  obtain ⟨j, s', e1, e2, e3⟩ := h
  have e1 : (τ.sl.set i s)[j]? = some s' := e1
  by_cases z : i = j
  · subst z
    rw [List.getElem?_set] at e1
    simp at e1
    rw [← e1.2, hs] at e2
    cases e2
  · rw [List.getElem?_set_ne z] at e1 e3
    exact ⟨j, s', e1, e2, e3⟩
/-- a pending new list is changed in its place -/
theorem Rel.updFr (R : Rel B S H σ τ) {p : Addr} {o o' : HO} (h1 : H p = some o) (h2 : S p = none) (h3 : ¬ B.R.M p) (h4 : B.H0 p = none) (h5 : ¬ Own σ τ.sl p) : Rel B S (upd H p o') σ τ := by
  refine ⟨fun b u e => ?_, fun b u m e => ?_, R.s0, R.new, R.mS, R.len, fun i s e => ?_, R.dis, ?_, R.m0⟩
  · rw [upd_ne (ne_of_none e h2)]
    exact R.sub b u e
  · rw [upd_ne (ne_of_none e h4)]
    exact R.ent b u m e
  · refine (R.sl i s e).mono (Same.refl _) fun a u w1 w2 w3 => ⟨?_, fun z => z⟩
    have na : a ≠ p := fun z => h5 ⟨i, s, e, w1, by rw [w2, z]⟩
    rw [upd_ne na]
    exact w3
  · exact B.R.stab _ _ _ _ _ (Same.refl _) (fun b m => upd_ne fun z => h3 (by rw [← z]; exact m)) R.res
end

/-! ### targets -/
/-- frozen data, or (l) a pair that was just given out -/
def DqL (l : Bool) (S H : Hp) (v : V) (d : PyData) : Prop := Dq S v d ∨ (l = true ∧ ∃ T xs ds, v = .ref T ∧ H T = some (.tup xs) ∧ d = .tuple ds ∧ DqA S xs ds)
abbrev SetD (R : Rsc) := PyData → Tau R → Option (Tau R)
section
variable (B : Bs)
def SndG (l : Bool) (g : TG) (set : SetD B.R) (is : List Nat) : Prop := ∀ S H σ (τ : Tau B.R) v d τ' Q, Rel B S H σ τ → DqL l S H v d → set d τ = some τ' →
  (∀ σ', Rel B S H σ' τ' → σ'.length = σ.length → (∀ vs : List Nat, (∀ i ∈ is, i ∈ vs) → wipe σ' vs = wipe σ vs) → (∀ b, Own σ' τ'.sl b → Own σ τ.sl b) → Q σ' H) → g v σ H Q
def SndGs (g : TGs) (set : List PyData → Tau B.R → Option (Tau B.R)) (is : List Nat) : Prop := ∀ S H σ (τ : Tau B.R) ws ds τ' Q, Rel B S H σ τ → DqA S ws ds → set ds τ = some τ' →
  (∀ σ', Rel B S H σ' τ' → σ'.length = σ.length → (∀ vs : List Nat, (∀ i ∈ is, i ∈ vs) → wipe σ' vs = wipe σ vs) → (∀ b, Own σ' τ'.sl b → Own σ τ.sl b) → Q σ' H) → g ws σ H Q
structure DG (l : Bool) (X : Cx) (e : Expr) (t : TG) (set : SetD B.R) (is : List Nat) : Prop where
  pe : PG X e t
  sd : SndG B l t set is
structure DGs (X : Cx) (es : List Expr) (t : TGs) (set : List PyData → Tau B.R → Option (Tau B.R)) (is : List Nat) : Prop where
  pe : PGs X es t
  sd : SndGs B t set is
end
def setN {R : Rsc} (i : Nat) : SetD R := fun d τ => if i < τ.sl.length then some (τ.put i (.sh d)) else none
def setNil {R : Rsc} : List PyData → Tau R → Option (Tau R)
  | [], τ => some τ
  | _ :: _, _ => none
def setCons {R : Rsc} (f : SetD R) (g : List PyData → Tau R → Option (Tau R)) : List PyData → Tau R → Option (Tau R)
  | [], _ => none
  | d :: ds, τ => (f d τ).bind (g ds)
def setTup {R : Rsc} (g : List PyData → Tau R → Option (Tau R)) : SetD R := fun d τ => match d with
  | .tuple ds => g ds τ
  | _ => none
section
variable {X : Cx} {B : Bs} {a e : Expr} {es : List Expr} {pos : Pos}
theorem dg_name (i : Nat) {x : Str} (hN : X.N.Nodup) (hi : X.N[i]? = some x) (hx : Loc X.env.scope x) (hf : X.fn x = true ∨ X.env.scope.names.lookup x = some .local := by first | exact .inl rfl | exact .inr rfl | assumption) :
    DG B false X (.Name x pos) (gName i) (setN i) [i] := by
  refine ⟨pg_name hN hi hx hf, fun S H σ τ v d τ' Q R k e q => ?_⟩
  have k : Dq S v d := k.elim id fun z => Bool.noConfusion z.1
  unfold setN at e
  by_cases h : i < τ.sl.length
  · rw [if_pos h] at e
    cases e
    refine q _ (Rel.store (val := .sh d) R k rfl h) (List.length_set ..) (fun vs hv => wipe_set (hv i (by simp))) fun b o => own_store (s := .sh d) rfl o
  · rw [if_neg h] at e
    cases e
theorem dgs_nil : DGs B X [] gNil (setNil (R := B.R)) [] := ⟨pgs_nil, fun S H σ τ ws ds τ' Q R k e q => by
  cases k with
  | nil =>
    cases e
    exact ⟨rfl, q σ R rfl (fun _ _ => rfl) fun _ o => o⟩
  | cons _ _ => cases e⟩
theorem dgs_cons {t : TG} {u : TGs} {f : SetD B.R} {g : List PyData → Tau B.R → Option (Tau B.R)} {is js : List Nat} (h1 : DG B false X e t f is) (h2 : DGs B X es u g js) (hs : (assignEach (e :: es) X.env).map (·.2) = assign e X.env :: (assignEach es X.env).map (·.2) := by rfl) : DGs B X (e :: es) (gCons t u) (setCons f g) (is ++ js) := by
  refine ⟨pgs_cons h1.pe h2.pe hs, fun S H σ τ ws ds τ' Q R k e q => ?_⟩
  cases k with
  | nil => cases e
  | cons k1 k2 =>
    obtain ⟨τ1, e1, e2⟩ := Option.bind_eq_some_iff.mp (show (f _ τ).bind _ = _ from e)
    refine ⟨_, _, rfl, h1.sd S H σ τ _ _ τ1 _ R (.inl k1) e1 fun σ1 R1 l1 w1 o1 => ?_⟩
    refine h2.sd S H σ1 τ1 _ _ τ' _ R1 k2 e2 fun σ2 R2 l2 w2 o2 => ?_
    exact q σ2 R2 (l2.trans l1) (fun vs hv => (w2 vs fun i hi => hv i (List.mem_append_right _ hi)).trans (w1 vs fun i hi => hv i (List.mem_append_left _ hi))) fun b o => o1 b (o2 b o)
theorem dg_tup {lz : Bool} {k : Nat} {t : TGs} {n : Nat} {g : List PyData → Tau B.R → Option (Tau B.R)} {is : List Nat} (hc : X.calm = true) (h : DGs B X es t g is) (hn : ∀ ds τ τ', g ds τ = some τ' → ds.length = n) (hn2 : (assignEach es X.env).length = n := by rfl) (hst : (assignEach es X.env).findIdx? (·.1) = none := by rfl) : DG B lz X (.Tuple es k pos) (gTup X.K n t) (setTup g) is := by
  refine ⟨pg_tup hc h.pe hn2 hst, fun S H σ τ v d τ' Q R k e q => ?_⟩
  rcases k with k | ⟨_, T, xs, ds, rfl, hT, rfl, k⟩
  · cases k with
    | tup h1 _ h2 =>
      have e : g _ τ = some τ' := e
      exact ⟨_, _, rfl, sqtF (R.sub _ _ h1), by rw [h2.len]; exact hn _ _ _ e, h.sd S H σ τ _ _ τ' Q R h2 e q⟩
    | _ => cases e
  · have e : g _ τ = some τ' := e
    exact ⟨_, _, rfl, SqT.of hT, by rw [k.len]; exact hn _ _ _ e, h.sd S H σ τ _ _ τ' Q R k e q⟩
theorem len_nil {R : Rsc} : ∀ ds (τ τ' : Tau R), setNil ds τ = some τ' → ds.length = 0 := fun ds τ τ' e => by
  cases ds with
  | nil => rfl
  | cons _ _ => cases e
theorem len_cons {R : Rsc} {f : SetD R} {g : List PyData → Tau R → Option (Tau R)} {n : Nat} (h : ∀ ds (τ τ' : Tau R), g ds τ = some τ' → ds.length = n) : ∀ ds (τ τ' : Tau R), setCons f g ds τ = some τ' → ds.length = n + 1 := fun ds τ τ' e => by
  cases ds with
  | nil => cases e
  | cons d ds =>
    obtain ⟨τ1, e1, e2⟩ := Option.bind_eq_some_iff.mp (show (f _ τ).bind _ = _ from e)
    show ds.length + 1 = n + 1
    rw [h _ _ _ e2]
end

/-! ### what is walked -/
def YOk (l : Bool) (S H : Hp) (x : V) (H' : Hp) (d : PyData) : Prop := (H' = H ∧ Dq S x d) ∨ (l = true ∧ ∃ T xs ds, x = .ref T ∧ H T = none ∧ H' = upd H T (.tup xs) ∧ d = .tuple ds ∧ DqA S xs ds)
structure ItOk (B : Bs) (l : Bool) (J : It) (S H : Hp) (items : List PyData) : Prop where
  ex : ∃ (G : Hp → Prop) (Y : Nat → Hp → V → Hp → Prop), Walk J items.length G Y ∧ (∀ S2 H2, Same S S2 → Same S2 H2 → (∀ b o, ¬ B.R.M b → B.H0 b = some o → H2 b = some o) → G H2) ∧
    ∀ i H1 x H1' d S1, items[i]? = some d → Same S S1 → Same S1 H1 → (∀ b o, ¬ B.R.M b → B.H0 b = some o → H1 b = some o) → Y i H1 x H1' → YOk l S1 H1 x H1' d
def okI (B : Bs) (l : Bool) (σ : St) : Okk B σ It (List PyData) := ⟨fun S H _ J items => ItOk B l J S H items, fun _ _ _ _ => True, fun _ _ => trivial⟩
abbrev DenI (R : Rsc) := Tau R → Out (Exn R) (List PyData × Tau R)
def SndI (B : Bs) (l : Bool) (wi : TI) (g : DenI B.R) : Prop := ∀ S H σ (τ : Tau B.R) R', Rel B S H σ τ → Sat B (okI B l σ) S H τ (g τ) R' → wi σ H R'
structure DI (B : Bs) (l : Bool) (X : Cx) (tg iter : Expr) (wi : TI) (g : DenI B.R) : Prop where
  pe : PI X tg iter wi
  sd : SndI B l wi g
section
variable {B : Bs} {S H : Hp} {σ : St} {τ : Tau B.R}
theorem yok_lay {l : Bool} (R : Rel B S H σ τ) {x : V} {H' : Hp} {d : PyData} (y : YOk l S H x H' d) : Gro B σ S H τ.sl S H' τ.sl ∧ Rel B S H' σ τ ∧ DqL l S H' x d := by
  rcases y with ⟨rfl, k⟩ | ⟨hl, T, xs, ds, rfl, hT, rfl, rfl, k⟩
  · exact ⟨.refl, R, .inl k⟩
  · exact ⟨.lay R hT, R.lay hT, .inr ⟨hl, T, xs, ds, rfl, upd_same, rfl, k⟩⟩
theorem Rel.h0 (R : Rel B S H σ τ) : ∀ b o, ¬ B.R.M b → B.H0 b = some o → H b = some o := R.ent
end
/-- a list or a tuple -/
def iSeq (K : PySem.W.Frag) (tl : TE) : TI := fun σ H R => tl σ H fun x H1 => ∃ a, x = .ref a ∧ (((∃ xs, SqL K H1 a xs) ∧ R (Itl K a) H1) ∨ ((∃ xs, SqT K H1 a xs) ∧ R (Itt K a) H1))
def dSeq {R : Rsc} (g : Den R) : DenI R := fun τ => (g τ).bind fun p => match p.1 with
  | .sh (.list ds) => .ok (ds, p.2)
  | .sh (.tuple ds) => .ok (ds, p.2)
  | _ => .bad
section
variable {X : Cx} {B : Bs} {tg l : Expr} {tl : TE} {gl : Den B.R}
theorem pi_seq (hl : PE X l tl) : PI X tg l (iSeq X.K tl) := by
  refine ⟨fun pins s σ H R I h => ?_⟩
  refine thn (hl.run pins s σ H _ I h) fun v s1 h1 => ?_
  obtain ⟨x, H1, I1, r1, a, rfl, q⟩ := h1
  cases r1
  rcases q with ⟨⟨xs, hq⟩, q⟩ | ⟨⟨xs, hq⟩, q⟩
  · obtain ⟨its, rv, p, hz⟩ := I1.list hq
    refine wpAny_pyIter_list p.isList ?_
    refine ⟨s1.heap.objs.size, [s1.heap.objs.size], _, _, H1, rfl, I1.kept (t' := s1.toks) fun b o e => Heap.get?_push_of_some _ e, turn_list a _, ⟨_, Heap.get?_push_size _ rfl, rfl, rfl⟩, fun b hb => ?_, q⟩
    have e : b = s1.heap.objs.size := by simpa using hb
    subst e
    exact I1.fpOk (Nat.le_refl _) (I1.hok.fresh (Nat.le_refl _))
  · obtain ⟨its, rv, p, hz⟩ := I1.tuple hq
    refine wpAny_pyIter_tuple (show s1.heap.IsTuple a its.toArray from p) ?_
    refine ⟨s1.heap.objs.size, [s1.heap.objs.size], _, _, H1, rfl, I1.kept (t' := s1.toks) fun b o e => Heap.get?_push_of_some _ e, turn_tuple a _, ⟨_, Heap.get?_push_size _ rfl, rfl, rfl⟩, fun b hb => ?_, q⟩
    have e : b = s1.heap.objs.size := by simpa using hb
    subst e
    exact I1.fpOk (Nat.le_refl _) (I1.hok.fresh (Nat.le_refl _))
theorem itok_list {J : It} {S H : Hp} {a : Addr} {K : PySem.W.Frag} {vs : List V} {ds : List PyData} (h : S a = some (.lst vs)) (k : DqA S vs ds) : ItOk B false (Itl K a) S H ds := by
  refine ⟨fun H => SqL K H a vs, YAt vs, by rw [← k.len]; exact walk_list, fun S2 H2 s1 s2 _ => SqL.of (s2 _ _ (s1 _ _ h)), fun i H1 x H1' d S1 e s1 s2 _ y => .inl ⟨y.1, ?_⟩⟩
  obtain ⟨v, e1, q⟩ := k.get' e
  rw [y.2] at e1
  cases e1
  exact q.mono s1
theorem itok_tup {J : It} {S H : Hp} {a : Addr} {o : Obj} {K : PySem.W.Frag} {vs : List V} {ds : List PyData} (h : S a = some (.frz o (.tup vs))) (k : DqA S vs ds) : ItOk B false (Itt K a) S H ds := by
  refine ⟨fun H => SqT K H a vs, YAt vs, by rw [← k.len]; exact walk_tup, fun S2 H2 s1 s2 _ => sqtF (s2 _ _ (s1 _ _ h)), fun i H1 x H1' d S1 e s1 s2 _ y => .inl ⟨y.1, ?_⟩⟩
  obtain ⟨v, e1, q⟩ := k.get' e
  rw [y.2] at e1
  cases e1
  exact q.mono s1
/-- the thing walked is frozen (wrap by de_sh) -/
theorem di_seq (h : DE B X l tl gl) : DI B false X tg l (iSeq X.K tl) (dSeq gl) := by
  refine ⟨pi_seq h.pe, fun S H σ τ R' R q => h.sd S H σ τ _ R (Sat.step (f := fun p => match p.1 with
    | .sh (.list ds) => .ok (ds, p.2)
    | .sh (.tuple ds) => .ok (ds, p.2)
    | _ => .bad) q fun x τ1 v S1 H1 _ G1 R1 o1 _ h1 => ?_)⟩
  cases x with
  | sh d =>
    cases d with
    | list ds =>
      cases o1 with
      | lst e k => exact ⟨_, rfl, .inl ⟨⟨_, SqL.of (R1.sub _ _ e)⟩, h1 _ S1 H1 .refl R1 (itok_list (J := Itl X.K 0) e k) trivial⟩⟩
    | tuple ds =>
      cases o1 with
      | tup e _ k => exact ⟨_, rfl, .inr ⟨⟨_, sqtF (R1.sub _ _ e)⟩, h1 _ S1 H1 .refl R1 (itok_tup (J := Itl X.K 0) e k) trivial⟩⟩
    | _ => exact h1.elim
  | _ => exact h1.elim
/-- a list that the caller owns, handed in: walked where it stands -/
def dSeqA {R : Rsc} (i : Nat) : DenI R := fun τ => match τ.sl[i]? with
  | some (.ar (.list ds)) => .ok (ds, τ)
  | _ => .bad
theorem di_arg (i : Nat) {x : Str} {pos : Pos} (hN : X.N[i]? = some x := by rfl) (hv : Vis X.env.scope x := by first | exact Or.inl rfl | exact Or.inr (Or.inl rfl) | exact Or.inr (Or.inr rfl)) (hd : (x == ("__debug__" : Str)) = false := by decide)
    (hcd : (x == ("__classdict__" : Str)) = false := by decide) : DI B false X tg (.Name x pos) (iSeq X.K (tVar i)) (dSeqA i) := by
  refine ⟨pi_seq (pe_var hN hv hd hcd), fun S H σ τ R' R q => ?_⟩
  unfold dSeqA at q
  split at q
  · rename_i ds e
    obtain ⟨v, ev, k⟩ := R.sl i _ e
    rcases k with k | ⟨a, vs, ds', rfl, e2, m, h0, k⟩
    · cases k with
      | lst e k => exact ⟨_, ev, _, rfl, .inl ⟨⟨_, SqL.of (R.sub _ _ e)⟩, q _ S H .refl R (itok_list (J := Itl X.K 0) e k) trivial⟩⟩
    · cases e2
      refine ⟨_, ev, a, rfl, .inl ⟨⟨vs, SqL.of (R.ent _ _ m h0)⟩, q _ S H .refl R ?_ trivial⟩⟩
      refine ⟨fun H => SqL X.K H a vs, YAt vs, by rw [← k.len]; exact walk_list, fun S2 H2 s1 s2 hh => SqL.of (hh _ _ m h0), fun i H1 x H1' d S1 e s1 s2 _ y => .inl ⟨y.1, ?_⟩⟩
      obtain ⟨v, e1, q⟩ := k.get' e
      rw [y.2] at e1
      cases e1
      exact q.mono s1
  · exact q.elim
/-! ranges -/
def rng (lo : Int) (n : Nat) : List PyData := (List.range n).map fun i => .int (lo + (i : Nat))
theorem itok_rng {S H : Hp} {lo : Int} {n : Nat} : ItOk B false (Itr lo n) S H (rng lo n) := by
  have hl : (rng lo n).length = n := by simp [rng]
  refine ⟨fun _ => True, YFn fun i => .int (lo + i), by rw [hl]; exact walk_range, fun _ _ _ _ _ => trivial, fun i H1 x H1' d S1 e _ _ _ y => .inl ⟨y.1, ?_⟩⟩
  obtain ⟨j, e1, e2⟩ := Option.map_eq_some_iff.mp (show ((List.range n)[i]?).map _ = _ by rw [← List.getElem?_map]; exact e)
  have e3 : j = i := by
    obtain ⟨h1, h2⟩ := List.getElem?_eq_some_iff.mp e1
    simp at h2
    exact h2.symm
  subst e3
  rw [y.2, ← e2]
  exact .int _
def inR (i : Int) : Prop := -(2 ^ 62) ≤ i ∧ i < 2 ^ 62
instance (i : Int) : Decidable (inR i) := by unfold inR; infer_instance
/-- x where i, j may bound a range (a def of its own: the kernel is not to look into the bounds) -/
def guardR {ε α : Type} (i j : Int) (x : Out ε α) : Out ε α := if inR i ∧ inR j then x else .bad
theorem guardR_ok {ε α : Type} {i j : Int} {x : Out ε α} (hi : inR i) (hj : inR j) : guardR i j x = x := if_pos ⟨hi, hj⟩
theorem inR_of {i : Int} (h1 : -1000000 ≤ i) (h2 : i ≤ 1000000) : inR i := ⟨by omega, by omega⟩
def dRng1 {R : Rsc} (g : DenA R) : DenI R := fun τ => (g τ).bind fun p => match p.1 with
  | [.sh (.int j)] => guardR 0 j (.ok (rng 0 j.toNat, p.2))
  | _ => .bad
def dRng2 {R : Rsc} (g : DenA R) : DenI R := fun τ => (g τ).bind fun p => match p.1 with
  | [.sh (.int i), .sh (.int j)] => guardR i j (.ok (rng i (j - i).toNat, p.2))
  | _ => .bad
theorem di_range1 {a : Expr} {ta : TA} {ga : DenA B.R} {p pos : Pos} (hg : Gl X "range") (hm : X.mg "range" = none) (ha : DA B X [a] ta ga) (hs : starEach [a] X.env = [(false, eval a X.env)] := by rfl) : DI B false X tg (.Call (.Name "range" p) [a] [] pos) (iRng1 ta) (dRng1 ga) := by
  refine ⟨pi_range1 hg hm ha.pe hs, fun S H σ τ R' R q => ha.sd S H σ τ _ R (Sat.step (f := fun p => match p.1 with
    | [.sh (.int j)] => guardR 0 j (.ok (rng 0 j.toNat, p.2))
    | _ => .bad) q fun x τ1 v S1 H1 _ G1 R1 o1 _ h1 => ?_)⟩
  split at h1
  · rename_i j e
    simp only at e
    subst e
    unfold guardR at h1
    by_cases z : inR 0 ∧ inR j
    · rw [if_pos z] at h1
      match o1 with
      | .cons k .nil =>
        cases k
        exact ⟨j, rfl, z.2.1, z.2.2, h1 _ S1 H1 .refl R1 itok_rng trivial⟩
    · rw [if_neg z] at h1
      exact h1.elim
  · exact h1.elim
theorem di_range2 {a b : Expr} {ta : TA} {ga : DenA B.R} {p pos : Pos} (hg : Gl X "range") (hm : X.mg "range" = none) (ha : DA B X [a, b] ta ga) (hs : starEach [a, b] X.env = [(false, eval a X.env), (false, eval b X.env)] := by rfl) (hs2 : starEach [b] X.env = [(false, eval b X.env)] := by rfl) : DI B false X tg (.Call (.Name "range" p) [a, b] [] pos) (iRng2 ta) (dRng2 ga) := by
  refine ⟨pi_range2 hg hm ha.pe hs hs2, fun S H σ τ R' R q => ha.sd S H σ τ _ R (Sat.step (f := fun p => match p.1 with
    | [.sh (.int i), .sh (.int j)] => guardR i j (.ok (rng i (j - i).toNat, p.2))
    | _ => .bad) q fun x τ1 v S1 H1 _ G1 R1 o1 _ h1 => ?_)⟩
  split at h1
  · rename_i i j e
    simp only at e
    subst e
    unfold guardR at h1
    by_cases z : inR i ∧ inR j
    · rw [if_pos z] at h1
      match o1 with
      | .cons k (.cons k2 .nil) =>
        cases k
        cases k2
        exact ⟨i, j, rfl, ⟨z.1.1, z.1.2, z.2.1, z.2.2⟩, h1 _ S1 H1 .refl R1 itok_rng trivial⟩
    · rw [if_neg z] at h1
      exact h1.elim
  · exact h1.elim
end
/-! ### comprehensions -/
structure DTs (B : Bs) (X : Cx) (ifs : List Expr) (t : TT) (g : DenT B.R) : Prop where
  pe : PTs X ifs t
  sd : SndT B t g
def dYes {R : Rsc} : DenT R := fun τ => .ok (true, τ)
def lcGo {R : Rsc} (set : SetD R) (gt : DenT R) (ge : Den R) (vs : List Nat) : List PyData → List PyData → Tau R → Out (Exn R) (List PyData × Tau R)
  | [], acc, τ => .ok (acc, τ)
  | d :: ds, acc, τ => match set d τ with
    | none => .bad
    | some τ1 => (gt τ1).bind fun p => if p.1 = true then (ge p.2).bind fun q => match q.1 with
        | .sh y => lcGo set gt ge vs ds (acc ++ [y]) (q.2.wipe vs)
        | _ => .bad
      else lcGo set gt ge vs ds acc (p.2.wipe vs)
def dLc {R : Rsc} (gi : DenI R) (set : SetD R) (gt : DenT R) (ge : Den R) (vs : List Nat) : Den R := fun τ => (gi τ).bind fun p =>
  if p.1.length ≤ sizeLine then (lcGo set gt ge vs p.1 [] (p.2.wipe vs)).bind fun q => .ok (.fr q.1, q.2) else .bad
section
variable {X : Cx} {B : Bs} {tg l : Expr} {tl : TE} {gl : Den B.R}
theorem dts_nil : DTs B X [] tYes (dYes (R := B.R)) := ⟨pts_nil, fun S H σ τ Q R h => h true S H .refl R rfl trivial⟩
theorem dts_one {c : Expr} {t : TT} {g : DenT B.R} (h : DT B X c t g) : DTs B X [c] t g := ⟨pts_one h.pe, h.sd⟩
theorem snd_lc {lz : Bool} {wi : TI} {g : TG} {tt : TT} {te : TE} {gi : DenI B.R} {set : SetD B.R} {is vs : List Nat} {gt : DenT B.R} {ge : Den B.R} (hi : SndI B lz wi gi) (hg : SndG B lz g set is) (ht : SndT B tt gt) (he : SndE B te ge) (his : ∀ i ∈ is, i ∈ vs) :
    SndE B (tLc wi g tt te vs) (dLc gi set gt ge vs) := by
  intro S H σ τ Q R h
  refine hi S H σ τ _ R (Sat.step (f := fun p => if p.1.length ≤ sizeLine then (lcGo set gt ge vs p.1 [] (p.2.wipe vs)).bind fun q => .ok (Val.fr q.1, q.2) else .bad) h fun items τ1 J S1 H1 _ G1 R1 o1 _ h1 => ?_)
  by_cases hz : items.length ≤ sizeLine
  · rw [if_pos hz] at h1
    obtain ⟨Gp, Y, W, hG, hY⟩ := o1
    intro D hD
    have agree : ∀ k, k ∉ vs → (wipe σ vs)[k]? = σ[k]? := fun k n => by rw [wipe_get, if_neg n]
    have agree' : ∀ k, k ∉ vs → σ[k]? = (wipe σ vs)[k]? := fun k n => (agree k n).symm
    obtain ⟨g2, r2, k2, f2⟩ := lay_lst R1 (vs := []) (ds := []) hD .nil
    have own1 : ∀ b, Own σ (τ1.wipe vs).sl b → Own σ τ1.sl b := fun b o => own_off (σ := σ) (fun _ _ => rfl) o
    refine lc_it W (fun i H' => ∃ S' τi acc, Gro B σ S1 H1 τ1.sl S' H' τi.sl ∧ Rel B S' H' (wipe σ vs) τi ∧ Uns vs τi.sl ∧ VOk B S' H' σ τi.sl (.ref D) (.fr acc) ∧ acc.length ≤ i ∧
      Sat B (okV B σ) S1 H1 τ1 ((lcGo set gt ge vs (items.drop i) acc τi).bind fun q => .ok (Val.fr q.1, q.2)) Q)
      ⟨S1, τ1.wipe vs, [], ⟨g2.s, g2.h, g2.n, own1⟩, r2.off (wipe_length ..) agree, uns_wipe _ _, VOk.gro (⟨Same.refl _, fun _ _ _ e => e, fun _ _ e => .inl e, own1⟩ : Gro B σ S1 (upd H1 D (.lst [])) τ1.sl S1 (upd H1 D (.lst [])) (τ1.wipe vs).sl) k2, Nat.le_refl _, h1⟩
      (fun i H' _ ⟨S', τi, acc, ga, ra, _⟩ => hG S' H' ga.s ra.sub ra.ent) (fun i x Ha Hb hi pv y => ?_) (fun H' pv => ?_)
    · obtain ⟨S', τi, acc, ga, ra, ua, ka, la, sa⟩ := pv
      have hd : items[i]? = some items[i] := List.getElem?_eq_getElem hi
      have ey : YOk lz S' Ha x Hb items[i] := hY i Ha x Hb _ S' hd ga.s ra.sub ra.ent y
      obtain ⟨gb, rb, kb⟩ := yok_lay ra ey
      rw [List.drop_eq_getElem_cons hi] at sa
      unfold lcGo at sa
      cases es : set items[i] τi with
      | none =>
        simp only [es] at sa
        exact sa.elim
      | some τ2 =>
        simp only [es] at sa
        refine hg S' Hb (wipe σ vs) τi x _ τ2 _ rb kb es fun σ2 R2 l2 w2 ow2 => ⟨by rw [w2 vs his, wipe_idem], ?_⟩
        have l2' : σ2.length = σ.length := by rw [l2, wipe_length]
        have agree2 : ∀ k, k ∉ vs → σ2[k]? = σ[k]? := fun k n => wipe_agree l2' (by rw [w2 vs his, wipe_idem]) n
        have owA : ∀ b, Own (wipe σ vs) τi.sl b → Own σ τi.sl b := fun b o => own_uns agree ua o
        have owB : ∀ b, Own σ τi.sl b → Own (wipe σ vs) τi.sl b := fun b o => own_uns agree' ua o
        -- back at the block's slots behind a turn
        have back : ∀ {S4 H4 : Hp} {τ4 : Tau B.R}, Rel B S4 H4 σ2 τ4 → Rel B S4 H4 (wipe σ vs) (τ4.wipe vs) := fun {S4 H4 τ4} r4 =>
          r4.off (by rw [wipe_length, l2']) (fun k n => by rw [agree k n, agree2 k n])
        have grow : ∀ {S4 H4 : Hp} {τ4 : Tau B.R}, Gro B σ2 S' Hb τ2.sl S4 H4 τ4.sl → Gro B σ S' Ha τi.sl S4 H4 (τ4.wipe vs).sl := fun {S4 H4 τ4} g4 => by
          have c1 : Gro B σ S' Ha τi.sl S' Hb τi.sl := gb.conv owA owB
          refine c1.trans (g4.conv (fun b o => owA b (ow2 b o)) fun b o => own_off (fun k n => (agree2 k n).symm) o)
        cases et : gt τ2 with
        | bad =>
          rw [et] at sa
          exact sa.elim
        | exc x =>
          rw [et] at sa
          exact ht S' Hb σ2 τ2 _ R2 (by rw [et]; exact ExcOk.mono (show ExcOk B S1 x from sa) ga.s)
        | ok p =>
          obtain ⟨b, τ3⟩ := p
          rw [et] at sa
          simp only [Out.bind_ok] at sa
          refine ht S' Hb σ2 τ2 _ R2 ?_
          rw [et]
          intro b' S3 H3 G3 R3 eb _
          have eb : b' = b := eb
          subst eb
          cases b' with
          | false =>
            simp only [Bool.false_eq_true, if_false] at sa ⊢
            have g5 := grow G3
            exact ⟨S3, τ3.wipe vs, acc, ga.trans g5, back R3, uns_wipe _ _, VOk.gro g5 ka, Nat.le_succ_of_le la, sa⟩
          | true =>
            simp only [if_true] at sa ⊢
            cases ee : ge τ3 with
            | bad =>
              rw [ee] at sa
              exact sa.elim
            | exc x =>
              rw [ee] at sa
              exact he S3 H3 σ2 τ3 _ R3 (by rw [ee]; exact ExcOk.mono (show ExcOk B S1 x from sa) (ga.s.trans G3.s))
            | ok p =>
              obtain ⟨val, τ4⟩ := p
              rw [ee] at sa
              simp only [Out.bind_ok] at sa
              refine he S3 H3 σ2 τ3 _ R3 ?_
              rw [ee]
              intro y S4 H4 G4 R4 ky _
              cases val with
              | sh yd =>
                have ky : Dq S4 y yd := ky
                have g5 := grow (G3.trans G4)
                obtain ⟨p, ws, eD, h1', h2', h3', h4', h5', h6'⟩ := VOk.gro g5 ka
                cases eD
                have lacc : ws.length = acc.length := h6'.len
                refine ⟨ws, h1', by rw [lacc]; omega, S4, τ4.wipe vs, acc ++ [yd], ?_, (back R4).updFr h1' h2' h3' h4' (fun o => h5' (own_uns agree (uns_wipe _ _) o)), uns_wipe _ _, ⟨D, ws ++ [y], rfl, upd_same, h2', h3', h4', h5', h6'.append (.cons ky .nil)⟩, by rw [List.length_append]; exact Nat.succ_le_succ la, sa⟩
                have g6 := ga.trans g5
                exact ⟨g6.s, fun b o m e => by rw [upd_ne (ne_of_none e hD)]; exact g6.h b o m e, g6.n, g6.o⟩
              | _ => exact sa.elim
    · obtain ⟨S', τi, acc, ga, ra, ua, ka, la, sa⟩ := pv
      rw [List.drop_length] at sa
      have q := R1.hnone hD
      exact sa (.ref D) S' H' ga (ra.offU (by rw [wipe_length]) agree' ua) ka (frN q.2.2.1 hD)
  · rw [if_neg hz] at h1
    exact h1.elim
theorem de_lc {lz : Bool} {elt tg iter : Expr} {ifs : List Expr} {scope : Scope} {own : List (Str × Nat)} {pos : Pos} {wi : TI} {g : TG} {tt : TT} {te : TE} {gi : DenI B.R} {set : SetD B.R} {is : List Nat} {gt : DenT B.R} {ge : Den B.R}
    (hc : X.calm = true) (hN : X.N.Nodup) (hi : DI B lz X tg iter wi gi) (ok : BlkOk X.N X.env.scope scope own)
    (hg : ∀ (s : Shared) (H : Hp) (C : Addr) (cl : List (Str × Addr)) (fp : List Addr), DG B lz (X.blk s H scope (compEnvC scope cl C X.env) fp) tg g set is) (ht : ∀ (s : Shared) (H : Hp) (C : Addr) (cl : List (Str × Addr)) (fp : List Addr), DTs B (X.blk s H scope (compEnvC scope cl C X.env) fp) ifs tt gt)
    (he : ∀ (s : Shared) (H : Hp) (C : Addr) (cl : List (Str × Addr)) (fp : List Addr), DE B (X.blk s H scope (compEnvC scope cl C X.env) fp) elt te ge) (his : ∀ i ∈ is, i ∈ own.map (·.2)) (hs : ∀ x, foldedSetIterable iter X.env x = pure x := by intro _; rfl) :
    DE B X (.ListComp elt [⟨tg, iter, ifs, 0⟩] scope pos) (tLc wi g tt te (own.map (·.2))) (dLc gi set gt ge (own.map (·.2))) :=
  ⟨pe_lc hc hN hi.pe ok (fun s H C cl fp => (hg s H C cl fp).pe) (fun s H C cl fp => (ht s H C cl fp).pe) (fun s H C cl fp => (he s H C cl fp).pe) hs,
    snd_lc hi.sd (hg X.s_0 X.H_0 0 [] []).sd (ht X.s_0 X.H_0 0 [] []).sd (he X.s_0 X.H_0 0 [] []).sd his⟩
end
end Kn
set_option Elab.async false
set_option linter.all false
set_option maxRecDepth 100000
set_option maxHeartbeats 4000000
namespace Kn
open PySem PySem.Spec L2
open PyProof.Rows hiding St

/-! ### statements -/
inductive Fl (R : Rsc) where
  | nx (τ : Tau R)
  | rt (v : Val) (τ : Tau R)
  | bk (τ : Tau R)
  | ct (τ : Tau R)
abbrev DenS (R : Rsc) := Tau R → Out (Exn R) (Fl R)
section
variable (B : Bs)
def SatS (S : Hp) (out : Out (Exn B.R) (Fl B.R)) (D : Ends) : Prop :=
  match out with
  | .bad => False
  | .exc e => ExcOk B S e
  | .ok (.nx τ') => ∀ S' H' σ', Same S S' → Rel B S' H' σ' τ' → D.nx σ' H'
  | .ok (.bk τ') => ∀ S' H' σ', Same S S' → Rel B S' H' σ' τ' → D.bk σ' H'
  | .ok (.ct τ') => ∀ S' H' σ', Same S S' → Rel B S' H' σ' τ' → D.ct σ' H'
  | .ok (.rt val τ') => ∀ v S' H' σ', Same S S' → Rel B S' H' σ' τ' → VOk B S' H' σ' τ'.sl v val → D.rt v H'
def SndS (t : TS) (g : DenS B.R) : Prop := ∀ S H σ (τ : Tau B.R) D, Rel B S H σ τ → SatS B S (g τ) D → t D σ H
structure DS (X : Cx) (st : Stmt) (t : TS) (g : DenS B.R) : Prop where
  pe : PS X st t
  sd : SndS B t g
structure DSs (X : Cx) (st : List Stmt) (t : TS) (g : DenS B.R) : Prop where
  pe : PSs X st t
  sd : SndS B t g
end
theorem SatS.mono {B : Bs} {S S' : Hp} {out : Out (Exn B.R) (Fl B.R)} {D : Ends} (h : SatS B S out D) (m : Same S S') : SatS B S' out D := by
  match out, h with
  | .exc e, h => exact ExcOk.mono h m
  | .ok (.nx τ'), h => exact fun S2 H2 σ2 s => h S2 H2 σ2 (m.trans s)
  | .ok (.bk τ'), h => exact fun S2 H2 σ2 s => h S2 H2 σ2 (m.trans s)
  | .ok (.ct τ'), h => exact fun S2 H2 σ2 s => h S2 H2 σ2 (m.trans s)
  | .ok (.rt v τ'), h => exact fun v S2 H2 σ2 s => h v S2 H2 σ2 (m.trans s)
def dNx {R : Rsc} : DenS R := fun τ => .ok (.nx τ)
def dThen {R : Rsc} (g h : DenS R) : DenS R := fun τ => (g τ).bind fun f => match f with
  | .nx τ' => h τ'
  | f => .ok f
section
variable {X : Cx} {B : Bs} {st : Stmt} {sts : List Stmt} {t u : TS} {g h : DenS B.R} {a b c e : Expr} {es : List Expr} {ta tb te : TE} {ga gb ge : Den B.R} {pos : Pos} {sA : TT} {hA : DenT B.R}
theorem dss_nil : DSs B X [] tNext (dNx (R := B.R)) := ⟨pss_nil, fun S H σ τ D R h => h S H σ (Same.refl _) R⟩
theorem dss_cons (h1 : DS B X st t g) (h2 : DSs B X sts u h) : DSs B X (st :: sts) (tSeq t u) (dThen g h) := by
  refine ⟨pss_cons h1.pe h2.pe, fun S H σ τ D R q => h1.sd S H σ τ _ R ?_⟩
  unfold dThen at q
  cases e : g τ with
  | bad => rw [e] at q; exact q
  | exc x => rw [e] at q; exact q
  | ok f =>
    rw [e] at q
    cases f with
    | nx τ' => exact fun S' H' σ' s r => h2.sd S' H' σ' τ' D r (SatS.mono q s)
    | bk τ' => exact q
    | ct τ' => exact q
    | rt v τ' => exact q
theorem dss_one (h1 : DS B X st t g) : DSs B X [st] t g := ⟨pss_one h1.pe, h1.sd⟩
/-! return, if, break, continue, pass -/
def dRet {R : Rsc} (g : Den R) : DenS R := fun τ => (g τ).bind fun p => .ok (.rt p.1 p.2)
/-- from an expression to what stands behind it -/
theorem sat_e {S H : Hp} {σ : St} {τ : Tau B.R} {ge : Den B.R} {f : Val × Tau B.R → Out (Exn B.R) (Fl B.R)} {D : Ends} {Q : VK} (q : SatS B S ((ge τ).bind f) D)
    (k : ∀ val τ' v S' H', ge τ = .ok (val, τ') → Gro B σ S H τ.sl S' H' τ'.sl → Rel B S' H' σ τ' → VOk B S' H' σ τ'.sl v val → FrV B σ H τ.sl v val → SatS B S' (f (val, τ')) D → Q v H') : Sat B (okV B σ) S H τ (ge τ) Q := by
  cases e : ge τ with
  | bad => rw [e] at q; exact q
  | exc x => rw [e] at q; exact q
  | ok p =>
    obtain ⟨val, τ'⟩ := p
    rw [e] at q
    exact fun v S' H' G R o f1 => k val τ' v S' H' e G R o f1 (SatS.mono q G.s)
theorem sat_t {S H : Hp} {σ : St} {τ : Tau B.R} {ge : DenT B.R} {f : Bool × Tau B.R → Out (Exn B.R) (Fl B.R)} {D : Ends} {Q : Bool → Hp → Prop} (q : SatS B S ((ge τ).bind f) D)
    (k : ∀ c τ' S' H', ge τ = .ok (c, τ') → Gro B σ S H τ.sl S' H' τ'.sl → Rel B S' H' σ τ' → SatS B S' (f (c, τ')) D → Q c H') : Sat B (okB B σ) S H τ (ge τ) Q := by
  cases e : ge τ with
  | bad => rw [e] at q; exact q
  | exc x => rw [e] at q; exact q
  | ok p =>
    obtain ⟨val, τ'⟩ := p
    rw [e] at q
    intro v S' H' G R o _
    have o : v = val := o
    subst o
    exact k v τ' S' H' e G R (SatS.mono q G.s)
theorem sat_a {S H : Hp} {σ : St} {τ : Tau B.R} {ge : DenA B.R} {f : List Val × Tau B.R → Out (Exn B.R) (Fl B.R)} {D : Ends} {Q : List V → Hp → Prop} (q : SatS B S ((ge τ).bind f) D)
    (k : ∀ val τ' v S' H', ge τ = .ok (val, τ') → Gro B σ S H τ.sl S' H' τ'.sl → Rel B S' H' σ τ' → Paired (fun v val => VOk B S' H' σ τ'.sl v val) v val → SatS B S' (f (val, τ')) D → Q v H') : Sat B (okA B σ) S H τ (ge τ) Q := by
  cases e : ge τ with
  | bad => rw [e] at q; exact q
  | exc x => rw [e] at q; exact q
  | ok p =>
    obtain ⟨val, τ'⟩ := p
    rw [e] at q
    exact fun v S' H' G R o _ => k val τ' v S' H' e G R o (SatS.mono q G.s)
theorem ds_ret (he : DE B X e te ge) : DS B X (.Return (some e) pos) (tRet te) (dRet ge) :=
  ⟨ps_ret he.pe, fun S H σ τ D R q => he.sd S H σ τ _ R (sat_e q fun val τ' v S' H' _ G R o _ q => q v S' H' σ (Same.refl _) R o)⟩
def dRetN {R : Rsc} : DenS R := fun τ => .ok (.rt (.sh .none) τ)
theorem ds_retN : DS B X (.Return none pos) tRetN (dRetN (R := B.R)) := ⟨ps_retN, fun S H σ τ D R q => q _ S H σ (Same.refl _) R Dq.non⟩
def dIfS {R : Rsc} (t : DenT R) (g h : DenS R) : DenS R := fun τ => (t τ).bind fun p => if p.1 = true then g p.2 else h p.2
theorem ds_if {ss ss' : List Stmt} (hc : DT B X c sA hA) (h1 : DSs B X ss t g) (h2 : DSs B X ss' u h) : DS B X (.If c ss ss' pos) (tIfS sA t u) (dIfS hA g h) := by
  refine ⟨ps_if hc.pe h1.pe h2.pe, fun S H σ τ D R q => hc.sd S H σ τ _ R (sat_t q fun c τ' S' H' _ G R q => ?_)⟩
  cases c with
  | true =>
    simp only [if_true] at q ⊢
    exact h1.sd S' H' σ τ' D R q
  | false =>
    simp only [Bool.false_eq_true, if_false] at q ⊢
    exact h2.sd S' H' σ τ' D R q
theorem ds_pass : DS B X (.Pass pos) tNext (dNx (R := B.R)) := ⟨ps_pass, fun S H σ τ D R h => h S H σ (Same.refl _) R⟩
theorem ds_break : DS B X (.Break pos) tBreak (fun τ => .ok (.bk τ)) := ⟨ps_break, fun S H σ τ D R h => h S H σ (Same.refl _) R⟩
theorem ds_continue : DS B X (.Continue pos) tCont (fun τ => .ok (.ct τ)) := ⟨ps_continue, fun S H σ τ D R h => h S H σ (Same.refl _) R⟩
def dNever {R : Rsc} : DenS R := fun _ => .bad
theorem ds_never : DS B X st tNever (dNever (R := B.R)) := ⟨ps_never, fun S H σ τ D R h => h⟩
theorem dss_never : DSs B X sts tNever (dNever (R := B.R)) := ⟨pss_never, fun S H σ τ D R h => h⟩
def dExpr {R : Rsc} (g : Den R) : DenS R := fun τ => (g τ).bind fun p => .ok (.nx p.2)
theorem ds_expr (he : DE B X e te ge) (hs : swapsWith e none pos.line X.env = pure false := by rfl) : DS B X (.Expr e pos) (tDrop te) (dExpr ge) :=
  ⟨ps_expr he.pe hs, fun S H σ τ D R q => he.sd S H σ τ _ R (sat_e q fun val τ' v S' H' _ G R o _ q => q S' H' σ (Same.refl _) R)⟩

/-! assignments -/
def dSet {R : Rsc} (i : Nat) (g : Den R) : DenS R := fun τ => (g τ).bind fun p => match p.1.slot with
  | some s => if i < p.2.sl.length then .ok (.nx (p.2.put i s)) else .bad
  | none => .bad
theorem snd_set {i : Nat} (he : SndE B te ge) : SndS B (tAsg te (gName i)) (dSet i ge) := by
  refine fun S H σ τ D R q => he S H σ τ _ R (sat_e q fun val τ' v S' H' _ G R o _ q => ?_)
  simp only at q
  cases es : val.slot with
  | none => simp only [es] at q; exact q.elim
  | some s =>
    simp only [es] at q
    by_cases hi : i < τ'.sl.length
    · rw [if_pos hi] at q
      exact q S' H' _ (Same.refl _) (R.store o es hi)
    · rw [if_neg hi] at q
      exact q.elim
theorem ds_set {i : Nat} {x : Str} {pos' : Pos} (hN : X.N.Nodup) (hi : X.N[i]? = some x) (hx : Loc X.env.scope x) (he : DE B X e te ge) (hs : swapsWith e (some (.Name x pos')) pos.line X.env = pure false := by rfl) (hf : X.fn x = true ∨ X.env.scope.names.lookup x = some .local := by first | exact .inl rfl | exact .inr rfl | assumption) :
    DS B X (.Assign [.Name x pos'] e pos) (tAsg te (gName i)) (dSet i ge) := ⟨ps_set hN hi hx he.pe hs hf, snd_set he.sd⟩
/-- name = [..], the comprehension on one line -/
theorem ds_setLc {lz : Bool} {i : Nat} {y : Str} {py : Pos} {elt tg iter : Expr} {ifs : List Expr} {scope : Scope} {own : List (Str × Nat)} {pos spos : Pos} {wi : TI} {g : TG} {tt : TT} {te : TE} {gi : DenI B.R} {set : SetD B.R} {is : List Nat} {gt : DenT B.R} {ge : Den B.R}
    (hc : X.calm = true) (hN : X.N.Nodup) (hy : X.N[i]? = some y) (hyl : X.env.scope.names.lookup y = some .local)
    (hsw : swapsWith (.ListComp elt [⟨tg, iter, ifs, 0⟩] scope pos) (some (.Name y py)) spos.line X.env = pure true) (hi : DI B lz X tg iter wi gi) (ok : BlkOk X.N X.env.scope scope own)
    (hg : ∀ (s : Shared) (H : Hp) (C : Addr) (cl : List (Str × Addr)) (fp : List Addr), DG B lz (X.blk s H scope (compEnvC scope cl C X.env) fp) tg g set is) (ht : ∀ (s : Shared) (H : Hp) (C : Addr) (cl : List (Str × Addr)) (fp : List Addr), DTs B (X.blk s H scope (compEnvC scope cl C X.env) fp) ifs tt gt)
    (he : ∀ (s : Shared) (H : Hp) (C : Addr) (cl : List (Str × Addr)) (fp : List Addr), DE B (X.blk s H scope (compEnvC scope cl C X.env) fp) elt te ge) (his : ∀ i ∈ is, i ∈ own.map (·.2)) (hs : ∀ x, foldedSetIterable iter X.env x = pure x := by intro _; rfl) :
    DS B X (.Assign [.Name y py] (.ListComp elt [⟨tg, iter, ifs, 0⟩] scope pos) spos) (tAsg (tLc wi g tt te (own.map (·.2))) (gName i)) (dSet i (dLc gi set gt ge (own.map (·.2)))) :=
  ⟨ps_setLc hc hN hy hyl hsw hi.pe ok (fun s H C cl fp => (hg s H C cl fp).pe) (fun s H C cl fp => (ht s H C cl fp).pe) (fun s H C cl fp => (he s H C cl fp).pe) hs,
    snd_set (snd_lc hi.sd (hg X.s_0 X.H_0 0 [] []).sd (ht X.s_0 X.H_0 0 [] []).sd (he X.s_0 X.H_0 0 [] []).sd his)⟩
/-- a, b = e, e' -/
def dPar {R : Rsc} (i j : Nat) (g h : Den R) : DenS R := fun τ => (g τ).bind fun p => (h p.2).bind fun q => match p.1.slot, q.1.slot with
  | some s, some s' => if i < q.2.sl.length ∧ j < q.2.sl.length then .ok (.nx ((q.2.put i s).put j s')) else .bad
  | _, _ => .bad
theorem VOk.behind {S H : Hp} {σ : St} {τ : Tau B.R} {i : Nat} {v w : V} {s : Sl} {val : Val} (k : VOk B S H σ τ.sl w val) (n : s.own = true → val.isFr = true → v ≠ w) : VOk B S H (σ.set i (some v)) (τ.put i s).sl w val := by
  have noOwn : ∀ a, w = .ref a → val.isFr = true → ¬ Own σ τ.sl a → ¬ Own (σ.set i (some v)) (τ.put i s).sl a := fun a ew hf no o => by
    obtain ⟨j, s', e1, e2, e3⟩ := o
    have e1 : (τ.sl.set i s)[j]? = some s' := e1
    by_cases z : i = j
    · subst z
      rw [List.getElem?_set] at e1
      simp at e1
      by_cases l : i < σ.length
      · rw [List.getElem?_set_self l] at e3
        exact n (by rw [e1.2]; exact e2) hf (by rw [ew]; exact Option.some.inj (Option.some.inj e3))
      · rw [List.getElem?_set, if_pos rfl, if_neg l] at e3
        cases e3
    · rw [List.getElem?_set_ne z] at e1 e3
      exact no ⟨j, s', e1, e2, e3⟩
  cases val with
  | fr ds =>
    obtain ⟨a, vs, rfl, h1, h2, h3, h4, h5, h6⟩ := k
    exact ⟨a, vs, rfl, h1, h2, h3, h4, noOwn a rfl rfl h5, h6⟩
  | fd ds =>
    obtain ⟨a, vs, rfl, h1, h2, h3, h4, h5, h6⟩ := k
    exact ⟨a, vs, rfl, h1, h2, h3, h4, noOwn a rfl rfl h5, h6⟩
  | sh d => exact k
  | bo d => exact k
  | bd d => exact k
  | rw d => exact k
theorem slot_fr {val : Val} {s : Sl} (e : val.slot = some s) (o : s.own = true) : val.isFr = true := by
  cases val <;> cases e <;> first | rfl | cases o
/-- two new things in a row are two -/
theorem fr_ne {S H : Hp} {σ : St} {τ : Tau B.R} {v w : V} {x y : Val} (k : VOk B S H σ τ.sl v x) (f : FrV B σ H τ.sl w y) (hx : x.isFr = true) (hy : y.isFr = true) : v ≠ w := by
  intro e
  cases x with
  | fr ds =>
    obtain ⟨a, vs, rfl, h1, h2, h3, h4, h5, h6⟩ := k
    rcases (f hy a e.symm).2 with z | z
    · rw [z] at h1
      cases h1
    · exact h5 z
  | fd ds =>
    obtain ⟨a, vs, rfl, h1, h2, h3, h4, h5, h6⟩ := k
    rcases (f hy a e.symm).2 with z | z
    · rw [z] at h1
      cases h1
    · exact h5 z
  | _ => cases hx
theorem ds_par {i j : Nat} {x y : Str} {px py pt : Pos} {kt k2 pt2} (hc : X.calm = true) (hN : X.N.Nodup) (hi : X.N[i]? = some x) (hj : X.N[j]? = some y) (hij : i ≠ j) (ha : DE B X a ta ga) (hb : DE B X b tb gb)
    (hp : PS X (.Assign [.Tuple [.Name x px, .Name y py] kt pt] (.Tuple [a, b] k2 pt2) pos) (tPar i j (tCons ta (tCons tb tNil)))) :
    DS B X (.Assign [.Tuple [.Name x px, .Name y py] kt pt] (.Tuple [a, b] k2 pt2) pos) (tPar i j (tCons ta (tCons tb tNil))) (dPar i j ga gb) := by
  refine ⟨hp, fun S H σ τ D R q => ha.sd S H σ τ _ R (sat_e q fun val τ1 v S1 H1 _ G1 R1 o1 f1 q1 => ?_)⟩
  refine hb.sd S1 H1 σ τ1 _ R1 (sat_e q1 fun val2 τ2 w S2 H2 _ G2 R2 o2 f2 q2 => ?_)
  simp only at q2
  cases es : val.slot with
  | none => simp only [es] at q2; exact q2.elim
  | some s =>
    cases es2 : val2.slot with
    | none => simp only [es, es2] at q2; exact q2.elim
    | some s2 =>
      simp only [es, es2] at q2
      by_cases hz : i < τ2.sl.length ∧ j < τ2.sl.length
      · rw [if_pos hz] at q2
        have R3 := R2.store (VOk.gro G2 o1) es hz.1
        have k2 : VOk B S2 H2 (σ.set i (some v)) (τ2.put i s).sl w val2 := VOk.behind o2 fun o f => fr_ne o1 f2 (slot_fr es o) f
        have R4 := R3.store k2 es2 (by show j < (τ2.sl.set i s).length; rw [List.length_set]; exact hz.2)
        exact ⟨v, w, rfl, q2 S2 H2 _ (Same.refl _) R4⟩
      · rw [if_neg hz] at q2
        exact q2.elim
/-- a target of names = e (a tuple that is frozen) -/
def dUnp {R : Rsc} (set : SetD R) (g : Den R) : DenS R := fun τ => (g τ).bind fun p => match p.1 with
  | .sh d => match set d p.2 with
    | some τ' => .ok (.nx τ')
    | none => .bad
  | _ => .bad
theorem ds_unp {tg : Expr} {g : TG} {set : SetD B.R} {is : List Nat} (he : DE B X e te ge) (hg : DG B false X tg g set is) (hs : swapsWithSole [tg] e pos.line X.env = pure false := by rfl) (hw : swappedStores [tg] e X.env = pure none := by rfl) (h1 : (assignEach [tg] X.env).map (·.2) = [assign tg X.env] := by rfl) :
    DS B X (.Assign [tg] e pos) (tAsg te g) (dUnp set ge) := by
  refine ⟨ps_asg he.pe hg.pe hs hw h1, fun S H σ τ D R q => he.sd S H σ τ _ R (sat_e q fun val τ' v S' H' _ G R o _ q => ?_)⟩
  cases val with
  | sh d =>
    simp only at q
    cases es : set d τ' with
    | none => simp only [es] at q; exact q.elim
    | some τ2 =>
      simp only [es] at q
      exact hg.sd S' H' σ τ' v d τ2 _ R (.inl o) es fun σ2 R2 _ _ _ => q S' H' σ2 (Same.refl _) R2
  | _ => exact q.elim

/-! what a slot owns, changed in its place -/
theorem Rel.own_at {S H : Hp} {σ : St} {τ : Tau B.R} (R : Rel B S H σ τ) {i : Nat} {s : Sl} {a : Addr} (o : s.own = true) (e : τ.sl[i]? = some s) (ea : σ[i]? = some (some (.ref a))) :
    ∀ {o' : HO} {s' : Sl} {val : Val}, (∀ σ' sl', ¬ Own σ' sl' a → VOk B S (upd H a o') σ' sl' (.ref a) val) → val.slot = some s' → Rel B S (upd H a o') σ (τ.put i s') := fun {o' s' val} k es => by
  have R1 := R.put (i := i) (s := .un) rfl trivial
  have n1 : ¬ Own σ (τ.put i .un).sl a := own_gone R e o ea rfl
  have hi : i < τ.sl.length := (List.getElem?_eq_some_iff.mp e).1
  have hh : ∃ u, H a = some u ∧ S a = none ∧ ¬ B.R.M a ∧ B.H0 a = none := by
    have q := R.sl i s e
    cases s with
    | ow ds =>
      obtain ⟨p, vs, ep, h1, h2, h3, h4, _⟩ := q
      rw [ea] at ep
      cases ep
      exact ⟨_, h1, h3, h4, h2⟩
    | od ds =>
      obtain ⟨p, vs, ep, h1, h2, h3, h4, _⟩ := q
      rw [ea] at ep
      cases ep
      exact ⟨_, h1, h3, h4, h2⟩
    | _ => cases o
  obtain ⟨u, h1, h2, h3, h4⟩ := hh
  have R2 : Rel B S (upd H a o') σ (τ.put i .un) := R1.updFr h1 h2 h3 h4 n1
  have R3 := R2.store (i := i) (k σ _ n1) es (by show i < (τ.sl.set i .un).length; rw [List.length_set]; exact hi)
  have e1 : σ.set i (some (.ref a)) = σ := by
    apply List.ext_getElem?
    intro k
    rw [List.getElem?_set]
    by_cases z : i = k
    · subst z
      have l : i < σ.length := (List.getElem?_eq_some_iff.mp ea).1
      rw [if_pos rfl, if_pos l, ea]
    · rw [if_neg z]
  have e2 : (τ.put i .un).put i s' = τ.put i s' := by
    show (⟨(τ.sl.set i .un).set i _, τ.γ⟩ : Tau B.R) = ⟨τ.sl.set i _, τ.γ⟩
    rw [List.set_set]
  rw [e1, e2] at R3
  exact R3
theorem Rel.setOw {S H : Hp} {σ : St} {τ : Tau B.R} (R : Rel B S H σ τ) {i : Nat} {ds : List PyData} (e : τ.sl[i]? = some (.ow ds)) :
    ∃ a vs, σ[i]? = some (some (.ref a)) ∧ H a = some (.lst vs) ∧ DqA S vs ds ∧ ∀ ws es, DqA S ws es → Rel B S (upd H a (.lst ws)) σ (τ.put i (.ow es)) := by
  obtain ⟨a, vs, ea, h1, h2, h3, h4, h5⟩ := R.sl i _ e
  exact ⟨a, vs, ea, h1, h5, fun ws es k => R.own_at (val := .fr es) rfl e ea (fun σ' sl' no => ⟨a, ws, rfl, upd_same, h3, h4, h2, no, k⟩) rfl⟩
theorem Rel.setOd {S H : Hp} {σ : St} {τ : Tau B.R} (R : Rel B S H σ τ) {i : Nat} {ds : List (Int × PyData)} (e : τ.sl[i]? = some (.od ds)) :
    ∃ a vs, σ[i]? = some (some (.ref a)) ∧ H a = some (.dK vs) ∧ KvA S vs ds ∧ ∀ ws es, KvA S ws es → Rel B S (upd H a (.dK ws)) σ (τ.put i (.od es)) := by
  obtain ⟨a, vs, ea, h1, h2, h3, h4, h5⟩ := R.sl i _ e
  exact ⟨a, vs, ea, h1, h5, fun ws es k => R.own_at (val := .fd es) rfl e ea (fun σ' sl' no => ⟨a, ws, rfl, upd_same, h3, h4, h2, no, k⟩) rfl⟩
/-- x.append(e) -/
def dApp {R : Rsc} (i : Nat) (g : Den R) : DenS R := fun τ => match τ.sl[i]? with
  | some (.ow _) => (g τ).bind fun p => match p.1, p.2.sl[i]? with
    | .sh d, some (.ow ds) => if ds.length < sizeLine then .ok (.nx (p.2.put i (.ow (ds ++ [d])))) else .bad
    | _, _ => .bad
  | _ => .bad
theorem ds_app (i : Nat) {x : Str} {p apos cpos : Pos} (he : DE B X e te ge)
    (hp : PE X (.Call (.Attribute (.Name x p) "append" apos) [e] [] cpos) (tBM X.K "list" rAppend (tVar i) (tCons te tNil)))
    (hs : swapsWith (.Call (.Attribute (.Name x p) "append" apos) [e] [] cpos) none pos.line X.env = pure false := by rfl) :
    DS B X (.Expr (.Call (.Attribute (.Name x p) "append" apos) [e] [] cpos) pos) (tDrop (tBM X.K "list" rAppend (tVar i) (tCons te tNil))) (dApp i ge) := by
  refine ⟨ps_expr hp hs, fun S H σ τ D R q => ?_⟩
  unfold dApp at q
  split at q
  · rename_i ds0 e0
    obtain ⟨a, vs, ea, h1, k1, _⟩ := R.setOw e0
    refine ⟨.ref a, ea, .inl ⟨rfl, _, SqL.of h1⟩, he.sd S H σ τ _ R (sat_e q fun val τ' v S' H' _ G R o _ q => ?_)⟩
    split at q
    · rename_i d ds e1 e2
      simp only at e1 e2
      subst e1
      obtain ⟨a', ws, ea', h2, k2, up⟩ := R.setOw e2
      rw [ea] at ea'
      cases ea'
      split at q
      · rename_i hz
        exact ⟨a, ws, v, rfl, rfl, h2, by rw [k2.len]; exact hz, q S' _ σ (Same.refl _) (up _ _ (k2.append (.cons o .nil)))⟩
      · exact q.elim
    · exact q.elim
  · exact q.elim
/-- x[j] = e, x an own list -/
def dSetIx {R : Rsc} (i : Nat) (g h : Den R) : DenS R := fun τ => (g τ).bind fun p => match p.1, p.2.sl[i]? with
  | .sh d, some (.ow _) => (h p.2).bind fun q => match q.1.int, q.2.sl[i]? with
    | some k, some (.ow ds) => match ixN ds.length k with
      | some j => .ok (.nx (q.2.put i (.ow (ds.set j d))))
      | none => .bad
    | _, _ => .bad
  | _, _ => .bad
theorem ds_setix (i : Nat) {x : Str} {p p2 : Pos} (hb : DE B X b tb gb) (he : DE B X e te ge) (hp : PS X (.Assign [.Subscript (.Name x p) b p2] e pos) (tAsg te (gSub (tVar i) tb rSetL))) :
    DS B X (.Assign [.Subscript (.Name x p) b p2] e pos) (tAsg te (gSub (tVar i) tb rSetL)) (dSetIx i ge gb) := by
  refine ⟨hp, fun S H σ τ D R q => he.sd S H σ τ _ R (sat_e q fun val τ1 v S1 H1 _ G1 R1 o1 _ q => ?_)⟩
  split at q
  · rename_i d ds0 e1 e2
    simp only at e1 e2
    subst e1
    obtain ⟨a, vs, ea, h1, k1, _⟩ := R1.setOw e2
    refine ⟨.ref a, ea, hb.sd S1 H1 σ τ1 _ R1 (sat_e q fun val2 τ2 w S2 H2 _ G2 R2 o2 _ q => ?_)⟩
    split at q
    · rename_i k ds e3 e4
      simp only at e3 e4
      obtain ⟨rfl, _⟩ := VOk.int o2 e3
      obtain ⟨a', ws, ea', h2, k2, up⟩ := R2.setOw e4
      rw [ea] at ea'
      cases ea'
      split at q
      · rename_i j ej
        exact ⟨a, ws, k, j, rfl, rfl, h2, by rw [k2.len]; exact ej, q S2 _ σ (Same.refl _) (up _ _ (DqA.set (Dq.mono G2.s o1) j k2))⟩
      · exact q.elim
    · exact q.elim
  · exact q.elim

/-! for -/
def forGo {R : Rsc} (set : SetD R) (gb : DenS R) : List PyData → DenS R
  | [], τ => .ok (.nx τ)
  | d :: ds, τ => match set d τ with
    | none => .bad
    | some τ1 => (gb τ1).bind fun f => match f with
      | .nx τ2 => forGo set gb ds τ2
      | .ct τ2 => forGo set gb ds τ2
      | .bk τ2 => .ok (.nx τ2)
      | .rt v τ2 => .ok (.rt v τ2)
def dFor {R : Rsc} (gi : DenI R) (set : SetD R) (gb : DenS R) : DenS R := fun τ => (gi τ).bind fun p => forGo set gb p.1 p.2
theorem sat_i {lz : Bool} {S H : Hp} {σ : St} {τ : Tau B.R} {ge : DenI B.R} {f : List PyData × Tau B.R → Out (Exn B.R) (Fl B.R)} {D : Ends} {Q : It → Hp → Prop} (q : SatS B S ((ge τ).bind f) D)
    (k : ∀ items τ' J S' H', Gro B σ S H τ.sl S' H' τ'.sl → Rel B S' H' σ τ' → ItOk B lz J S' H' items → SatS B S' (f (items, τ')) D → Q J H') : Sat B (okI B lz σ) S H τ (ge τ) Q := by
  cases e : ge τ with
  | bad => rw [e] at q; exact q
  | exc x => rw [e] at q; exact q
  | ok p =>
    obtain ⟨val, τ'⟩ := p
    rw [e] at q
    exact fun v S' H' G R o _ => k val τ' v S' H' G R o (SatS.mono q G.s)
theorem ds_for {lz : Bool} {iter tg : Expr} {body : List Stmt} {wi : TI} {gg : TG} {tb : TS} {gi : DenI B.R} {set : SetD B.R} {is : List Nat} {gb : DenS B.R} (hp : PassesOwn (model X.prog X.w) X.A X.env X.xe) (hc : X.calm = true) (hi : DI B lz X tg iter wi gi) (hg : DG B lz X tg gg set is) (hb : DSs B X body tb gb)
    (hs : ∀ x, foldedSetIterable iter X.env x = pure x := by intro _; rfl) : DS B X (.For tg iter body [] pos) (tFor wi gg tb) (dFor gi set gb) := by
  refine ⟨ps_for hp hc hi.pe hg.pe hb.pe hs, fun S H σ τ D R q => hi.sd S H σ τ _ R (sat_i q fun items τ1 J S1 H1 G1 R1 o1 q1 => ?_)⟩
  obtain ⟨Gp, Y, W, hG, hY⟩ := o1
  refine for_it W (fun i σ' H' => ∃ S' τi, Same S1 S' ∧ Rel B S' H' σ' τi ∧ SatS B S' (forGo set gb (items.drop i) τi) D) ⟨S1, τ1, Same.refl _, R1, q1⟩
    (fun i σ' H' _ ⟨S', τi, s, r, _⟩ => hG S' H' s r.sub r.ent) (fun i x σ' Ha Hb hi ⟨S', τi, s, r, sa⟩ y => ?_) (fun σ' H' ⟨S', τi, s, r, sa⟩ => ?_)
  · have hd : items[i]? = some items[i] := List.getElem?_eq_getElem hi
    obtain ⟨gb2, rb, kb⟩ := yok_lay r (hY i Ha x Hb _ S' hd s r.sub r.ent y)
    rw [List.drop_eq_getElem_cons hi] at sa
    unfold forGo at sa
    cases es : set items[i] τi with
    | none =>
      simp only [es] at sa
      exact sa.elim
    | some τ2 =>
      simp only [es] at sa
      refine hg.sd S' Hb σ' τi x _ τ2 _ rb kb es fun σ2 R2 _ _ _ => hb.sd S' Hb σ2 τ2 _ R2 ?_
      have sa := SatS.mono sa gb2.s
      cases eb : gb τ2 with
      | bad => rw [eb] at sa; exact sa
      | exc z => rw [eb] at sa; exact sa
      | ok f =>
        rw [eb] at sa
        cases f with
        | nx τ3 => exact fun S3 H3 σ3 s3 r3 => ⟨S3, τ3, s.trans (gb2.s.trans s3), r3, SatS.mono sa s3⟩
        | ct τ3 => exact fun S3 H3 σ3 s3 r3 => ⟨S3, τ3, s.trans (gb2.s.trans s3), r3, SatS.mono sa s3⟩
        | bk τ3 => exact sa
        | rt v τ3 => exact sa
  · rw [List.drop_length] at sa
    exact sa S' H' σ' (Same.refl _) r
end
end Kn
set_option Elab.async false
set_option linter.all false
set_option maxRecDepth 100000
set_option maxHeartbeats 4000000
namespace Kn
open PySem PySem.Spec L2
open PyProof.Rows hiding St

/-! ### what a def promises -/
inductive Res (Γ : Type) where
  | ok (val : Val) (γ : Γ)
  | err (C : Addr) (f : Option (Str × V)) (γ : Γ)
abbrev ArgsOk (R : Rsc) (H S : Hp) (ws : List V) (ds : List PyData) : Prop := Paired (fun v d => ArgOk ⟨R, S, H, fun _ _ _ => True⟩ S v d) ws ds
def ROk (R : Rsc) (H0 S' H' : Hp) (v : V) : Val → Prop
  | .sh d => Dq S' v d
  | .fr ds => ∃ a vs, v = .ref a ∧ H' a = some (.lst vs) ∧ S' a = none ∧ ¬ R.M a ∧ H0 a = none ∧ DqA S' vs ds
  | .fd kvs => ∃ a vs, v = .ref a ∧ H' a = some (.dK vs) ∧ S' a = none ∧ ¬ R.M a ∧ H0 a = none ∧ KvA S' vs kvs
  | .rw w => v = w
  | _ => True
structure After (R : Rsc) (S H : Hp) (γ' : R.Γ) (S' H' : Hp) : Prop where
  s : Same S S'
  h : ∀ b o, ¬ R.M b → H b = some o → H' b = some o
  n : ∀ b o, S' b = some o → S b = some o ∨ (¬ R.M b ∧ H b = none)
  sub : Same S' H'
  ok : R.ok γ' S' H'
def Ret (R : Rsc) (S H : Hp) (r : Res R.Γ) (Q : VK) (E : XK) : Prop := match r with
  | .ok val γ' => ∀ v S' H', After R S H γ' S' H' → ROk R H S' H' v val → Q v H'
  | .err C f γ' => ∀ d S' H', After R S H γ' S' H' → ExD H' d f → E (.ref C) d H'
def spG (R : Rsc) (pre : List V) (F : R.Γ → List PyData → Option (Res R.Γ)) : Sp := fun vs H Q E => ∃ ws S γ ds r, vs = pre ++ ws ∧ Same S H ∧ (∀ b, R.M b → S b = none) ∧ R.ok γ S H ∧ ArgsOk R H S ws ds ∧ F γ ds = some r ∧ Ret R S H r Q E
/-- the body's outcome against the promise -/
def Gd {R : Rsc} (out : Out (Exn R) (Fl R)) (r : Res R.Γ) : Prop := match r with
  | .ok val γ' => (∃ τ', out = .ok (.rt val τ') ∧ τ'.γ = γ') ∨ (val = .sh .none ∧ ∃ τ', out = .ok (.nx τ') ∧ τ'.γ = γ')
  | .err C f γ' => out = .exc ⟨C, f, γ'⟩
def entry {R : Rsc} (n : Nat) (pre : List V) (ds : List PyData) (γ : R.Γ) : Tau R := ⟨pre.map .rw ++ (ds.map .ar ++ List.replicate (n - (pre.length + ds.length)) .un), γ⟩
theorem paired_get {α β : Type} {G : α → β → Prop} : ∀ {l : List α} {m : List β} {i : Nat} {b : β}, Paired G l m → m[i]? = some b → ∃ a, l[i]? = some a ∧ G a b
  | _, _, _, _, .nil, e => by simp at e
  | _, _, 0, _, .cons r _, e => by
    simp at e
    subst e
    exact ⟨_, rfl, r⟩
  | _, _, i + 1, b, .cons _ t, e => by
    obtain ⟨a, h1, h2⟩ := paired_get (i := i) (b := b) t (by simpa using e)
    exact ⟨a, by simpa using h1, h2⟩
theorem entry_rel {R : Rsc} {S H : Hp} {E : XK} {pre ws : List V} {ds : List PyData} {γ : R.Γ} {N : List Str} (hS : Same S H) (hM : ∀ b, R.M b → S b = none) (hok : R.ok γ S H) (ha : ArgsOk R H S ws ds) (hl : (pre ++ ws).length ≤ N.length) :
    Rel ⟨R, S, H, E⟩ S H (start N (pre ++ ws)) (entry N.length pre ds γ) := by
  have hlen : ws.length = ds.length := Paired.length ha
  have get : ∀ {i : Nat} {s : Sl}, (entry (R := R) N.length pre ds γ).sl[i]? = some s → (∃ v, s = .rw v ∧ (start N (pre ++ ws))[i]? = some (some v)) ∨ (∃ v d, s = .ar d ∧ (start N (pre ++ ws))[i]? = some (some v) ∧ ArgOk ⟨R, S, H, E⟩ S v d) ∨ s = .un := fun {i s} e => by
    unfold entry at e
    unfold L2.start
    simp only at e
    rw [List.getElem?_append] at e
    by_cases h1 : i < (pre.map Sl.rw).length
    · rw [if_pos h1, List.getElem?_map] at e
      obtain ⟨v, e1, e2⟩ := Option.map_eq_some_iff.mp e
      refine .inl ⟨v, e2.symm, ?_⟩
      rw [List.length_map] at h1
      rw [List.map_append, List.append_assoc, List.getElem?_append, if_pos (by rw [List.length_map]; exact h1), List.getElem?_map, e1]
      rfl
    · rw [if_neg h1, List.getElem?_append] at e
      rw [List.length_map] at h1 e
      by_cases h2 : i - pre.length < (ds.map Sl.ar).length
      · rw [if_pos h2, List.getElem?_map] at e
        obtain ⟨d, e1, e2⟩ := Option.map_eq_some_iff.mp e
        obtain ⟨v, e3, k⟩ := paired_get ha e1
        refine .inr (.inl ⟨v, d, e2.symm, ?_, k⟩)
        rw [List.map_append, List.append_assoc, List.getElem?_append, if_neg (by rw [List.length_map]; exact h1), List.length_map, List.getElem?_append, if_pos (by rw [List.length_map]; rw [List.length_map] at h2; omega), List.getElem?_map, e3]
        rfl
      · rw [if_neg h2] at e
        obtain ⟨h3, h4⟩ := List.getElem?_eq_some_iff.mp e
        rw [List.getElem_replicate] at h4
        exact .inr (.inr h4.symm)
  refine ⟨hS, fun _ _ _ e => e, Same.refl _, fun _ _ e => .inl e, hM, ?_, fun i s e => ?_, fun i j s s' b e1 e2 o1 o2 _ _ => ?_, hok, fun b m => R.mem _ _ _ _ hok m⟩
  · unfold L2.start entry
    simp only [List.length_append, List.length_map, List.length_replicate] at hl ⊢
    omega
  · rcases get e with ⟨v, rfl, q⟩ | ⟨v, d, rfl, q, k⟩ | rfl
    · exact q
    · exact ⟨v, q, k⟩
    · trivial
  · rcases get e1 with ⟨v, rfl, q⟩ | ⟨v, d, rfl, q, k⟩ | rfl <;> cases o1
theorem run_body {X : Cx} {body : List Stmt} {t : TS} {R : Rsc} {S H : Hp} {E : XK} {g : DenS R} (D : DSs ⟨R, S, H, E⟩ X body t g) {pre ws : List V} {ds : List PyData} {γ : R.Γ} {r : Res R.Γ} {Q : VK} {N : List Str}
    (hS : Same S H) (hM : ∀ b, R.M b → S b = none) (hok : R.ok γ S H) (ha : ArgsOk R H S ws ds) (hl : (pre ++ ws).length ≤ N.length) (hg : Gd (g (entry N.length pre ds γ)) r) (ret : Ret R S H r Q E) :
    t { nx := fun _ H' => Q .non H', rt := Q } (start N (pre ++ ws)) H := by
  have R0 := entry_rel (E := E) hS hM hok ha hl
  have aft : ∀ {S' H' : Hp} {σ' : St} {τ' : Tau R}, Rel ⟨R, S, H, E⟩ S' H' σ' τ' → After R S H τ'.γ S' H' := fun {S' H' σ' τ'} r => ⟨r.s0, r.ent, fun b o e => by
    by_cases m : R.M b
    · have := r.mS b m
      rw [this] at e
      cases e
    · exact (r.new b o e).imp id fun z => ⟨m, z⟩, r.sub, r.res⟩
  refine D.sd S H _ (entry N.length pre ds γ) _ R0 ?_
  cases r with
  | err C f γ' =>
    have hg : g (entry N.length pre ds γ) = _ := hg
    rw [hg]
    intro S' H' σ' τ' d _ r e x
    have e : τ'.γ = γ' := e
    subst e
    exact ret d S' H' (aft r) x
  | ok val γ' =>
    rcases hg with ⟨τ', e, eγ⟩ | ⟨rfl, τ', e, eγ⟩
    · rw [e]
      subst eγ
      intro v S' H' σ' _ r k
      refine ret v S' H' (aft r) ?_
      cases val with
      | sh d => exact k
      | fr ds =>
        obtain ⟨a, vs, e, h1, h2, h3, h4, _, h5⟩ := k
        exact ⟨a, vs, e, h1, h2, h3, h4, h5⟩
      | fd ds =>
        obtain ⟨a, vs, e, h1, h2, h3, h4, _, h5⟩ := k
        exact ⟨a, vs, e, h1, h2, h3, h4, h5⟩
      | rw w => exact k
      | bo _ => trivial
      | bd _ => trivial
    · rw [e]
      subst eγ
      intro S' H' σ' _ r
      exact ret .non S' H' (aft r) Dq.non

/-! ### a call -/
section
variable {X : Cx} {B : Bs} {e : Expr} {es : List Expr} {t : TA} {ga : DenA B.R} {pos p : Pos} {k : Nat}
theorem Rel.grown {S H S' H' : Hp} {σ : St} {τ : Tau B.R} {γ' : B.R.Γ} (R : Rel B S H σ τ) (a : After B.R S H γ' S' H') : Rel B S' H' σ ⟨τ.sl, γ'⟩ := by
  refine ⟨a.sub, fun b o m e => a.h b o m (R.ent b o m e), R.s0.trans a.s, fun b o e => ?_, fun b m => ?_, R.len, fun i s e => ?_, R.dis, a.ok, R.m0⟩
  · rcases a.n b o e with z | ⟨_, z⟩
    · exact R.new b o z
    · exact .inr (R.hnone z).2.1
  · cases q : S' b with
    | none => rfl
    | some o =>
      rcases a.n b o q with z | ⟨z, _⟩
      · rw [R.mS b m] at z
        cases z
      · exact absurd m z
  · have k := R.sl i s e
    have nM : ∀ {p : Addr}, s.own = true → σ[i]? = some (some (.ref p)) → ¬ B.R.M p := fun {p} o ep => by
      cases s with
      | ow ds =>
        obtain ⟨p', _, ep', _, _, _, h, _⟩ := k
        rw [ep] at ep'
        cases ep'
        exact h
      | od ds =>
        obtain ⟨p', _, ep', _, _, _, h, _⟩ := k
        rw [ep] at ep'
        cases ep'
        exact h
      | _ => cases o
    refine k.mono a.s fun p o o1 ep hp => ⟨a.h p o (nM o1 ep) hp, fun z => ?_⟩
    cases q : S' p with
    | none => rfl
    | some u =>
      rcases a.n p u q with z' | ⟨_, z'⟩
      · rw [z] at z'
        cases z'
      · rw [hp] at z'
        cases z'
theorem Gro.grown {S H S' H' : Hp} {σ : St} {τ : Tau B.R} {γ' : B.R.Γ} (R : Rel B S H σ τ) (a : After B.R S H γ' S' H') : Gro B σ S H τ.sl S' H' τ.sl :=
  ⟨a.s, a.h, fun b o e => (a.n b o e).imp id fun z => ⟨z.1, .inl z.2⟩, fun _ e => e⟩
/-- a callee that writes nothing of ours, seen from here -/
theorem After.pure {S H S' H' : Hp} {σ : St} {τ : Tau B.R} (R : Rel B S H σ τ) (a : After R0 S H () S' H') : After B.R S H τ.γ S' H' := by
  have hh : Same H H' := fun b o e => a.h b o (fun z => z) e
  have nM : ∀ b, H b = none → ¬ B.R.M b := fun b e => (R.hnone e).2.2.1
  refine ⟨a.s, fun b o _ e => hh b o e, fun b o e => (a.n b o e).imp id fun z => ⟨nM b z.2, z.2⟩, a.sub, B.R.stab _ _ _ _ _ a.s (fun b m => ?_) R.res⟩
  cases q : H b with
  | none => exact absurd m (nM b q)
  | some o => rw [hh b o q]
theorem ROk.v {S H S' H' : Hp} {σ : St} {τ : Tau B.R} {RR : Rsc} (R : Rel B S H σ τ) {v : V} {val : Val} (k : ROk RR H S' H' v val) (nb : ∀ ds, val ≠ .bo ds) (nd : ∀ ds, val ≠ .bd ds) : VOk B S' H' σ τ.sl v val ∧ FrV B σ H τ.sl v val := by
  cases val with
  | sh d => exact ⟨k, frS⟩
  | rw d => exact ⟨k, frR⟩
  | fr ds =>
    obtain ⟨a, vs, rfl, h1, h2, h3, h4, h5⟩ := k
    have q := R.hnone h4
    exact ⟨⟨a, vs, rfl, h1, h2, q.2.2.1, q.2.1, q.2.2.2, h5⟩, frN q.2.2.1 h4⟩
  | fd ds =>
    obtain ⟨a, vs, rfl, h1, h2, h3, h4, h5⟩ := k
    have q := R.hnone h4
    exact ⟨⟨a, vs, rfl, h1, h2, q.2.2.1, q.2.1, q.2.2.2, h5⟩, frN q.2.2.1 h4⟩
  | bo ds => exact absurd rfl (nb ds)
  | bd ds => exact absurd rfl (nd ds)
theorem args_ok {S H : Hp} {σ : St} {τ : Tau B.R} {RR : Rsc} (hRR : ∀ b, RR.M b → B.R.M b) (R : Rel B S H σ τ) : ∀ {vs : List V} {vals : List Val} {ds : List PyData}, Paired (fun v val => VOk B S H σ τ.sl v val) vs vals → allData vals = some ds → ArgsOk RR H S vs ds
  | _, _, _, .nil, e => by
    cases e
    exact .nil
  | _, _, ds, .cons (b := val) a r, e => by
    unfold allData at e
    cases ed : val.data with
    | none => simp only [ed] at e; cases e
    | some d =>
      simp only [ed] at e
      obtain ⟨ds', e1, e2⟩ := Option.map_eq_some_iff.mp e
      subst e2
      refine .cons ?_ (args_ok hRR R r e1)
      cases val with
      | sh x =>
        cases ed
        exact .inl a
      | fr xs =>
        cases ed
        obtain ⟨p, ws, rfl, h1, _, h3, _, _, h6⟩ := a
        exact .inr ⟨p, ws, xs, rfl, rfl, fun m => h3 (hRR p m), h1, h6⟩
      | bo xs =>
        cases ed
        obtain ⟨p, ws, rfl, h1, h3, h6⟩ := a
        exact .inr ⟨p, ws, xs, rfl, rfl, fun m => h3 (hRR p m), h1, h6⟩
      | fd _ => cases ed
      | bd _ => cases ed
      | rw _ => cases ed
def Val.out : Val → Bool
  | .bo _ => false
  | .bd _ => false
  | _ => true
theorem out_bo {val : Val} (h : val.out = true) : (∀ ds, val ≠ .bo ds) ∧ (∀ ds, val ≠ .bd ds) := by
  cases val <;> first | (cases h; done) | exact ⟨fun _ z => Val.noConfusion z, fun _ z => Val.noConfusion z⟩
/-- pure functions of data: the outcome, or an exception -/
abbrev PFn := List PyData → Option (Res Unit)
def spP (F : PFn) : Sp := spG R0 [] fun _ ds => F ds
/-- a call that raises nothing -/
def dCall {R : Rsc} (F : PFn) (g : DenA R) : Den R := fun τ => (g τ).bind fun p => match allData p.1 with
  | some ds => match F ds with
    | some (.ok val _) => if val.out = true then .ok (val, p.2) else .bad
    | _ => .bad
  | none => .bad
/-- a call that may raise -/
def dCallX {R : Rsc} (F : PFn) (g : DenA R) : Den R := fun τ => (g τ).bind fun p => match allData p.1 with
  | some ds => match F ds with
    | some (.ok val _) => if val.out = true then .ok (val, p.2) else .bad
    | some (.err C f _) => .exc ⟨C, f, p.2.γ⟩
    | _ => .bad
  | none => .bad
theorem snd_callX {F : PFn} (ha : SndA B t ga) : SndE B (tCall (spP F) [] B.E t) (dCallX F ga) := by
  refine fun S H σ τ Q R q => ha S H σ τ _ R (Sat.step (f := fun p => match allData p.1 with
    | some ds => match F ds with
      | some (.ok val _) => if val.out = true then .ok (val, p.2) else .bad
      | some (.err C f _) => .exc ⟨C, f, p.2.γ⟩
      | _ => .bad
    | none => .bad) q fun x τ1 vs S1 H1 _ G1 R1 o1 _ h1 => ?_)
  cases e : allData x with
  | none => simp only [e] at h1; exact h1.elim
  | some ds =>
    simp only [e] at h1
    have ka := args_ok (RR := R0) (fun _ z => z.elim) R1 o1 e
    cases ef : F ds with
    | none => simp only [ef] at h1; exact h1.elim
    | some r =>
      simp only [ef] at h1
      refine ⟨vs, S1, (), ds, r, (List.append_nil _).trans (List.nil_append _).symm, R1.sub, fun _ z => z.elim, trivial, ka, ef, ?_⟩
      cases r with
      | ok val u =>
        simp only at h1
        by_cases ho : val.out = true
        · rw [if_pos ho] at h1
          intro v S' H' a k
          have a' := a.pure R1
          obtain ⟨kv, kf⟩ := k.v R1 (out_bo ho).1 (out_bo ho).2
          exact h1 v S' H' (Gro.grown R1 a') (R1.grown a') kv kf
        · rw [if_neg ho] at h1
          exact h1.elim
      | err C f u =>
        intro d S' H' a x
        have a' := a.pure R1
        exact h1 S' H' σ ⟨τ1.sl, τ1.γ⟩ d a'.s (R1.grown a') rfl x
theorem snd_call {F : PFn} {E : XK} (ha : SndA B t ga) : SndE B (tCall (spP F) [] E t) (dCall F ga) := by
  refine fun S H σ τ Q R q => ha S H σ τ _ R (Sat.step (f := fun p => match allData p.1 with
    | some ds => match F ds with
      | some (.ok val _) => if val.out = true then .ok (val, p.2) else .bad
      | _ => .bad
    | none => .bad) q fun x τ1 vs S1 H1 _ G1 R1 o1 _ h1 => ?_)
  cases e : allData x with
  | none => simp only [e] at h1; exact h1.elim
  | some ds =>
    simp only [e] at h1
    have ka := args_ok (RR := R0) (fun _ z => z.elim) R1 o1 e
    cases ef : F ds with
    | none => simp only [ef] at h1; exact h1.elim
    | some r =>
      simp only [ef] at h1
      cases r with
      | ok val u =>
        refine ⟨vs, S1, (), ds, .ok val u, (List.append_nil _).trans (List.nil_append _).symm, R1.sub, fun _ z => z.elim, trivial, ka, ef, ?_⟩
        simp only at h1
        by_cases ho : val.out = true
        · rw [if_pos ho] at h1
          intro v S' H' a k
          have a' := a.pure R1
          obtain ⟨kv, kf⟩ := k.v R1 (out_bo ho).1 (out_bo ho).2
          exact h1 v S' H' (Gro.grown R1 a') (R1.grown a') kv kf
        · rw [if_neg ho] at h1
          exact h1.elim
      | err C f u => exact h1.elim
theorem de_call {x : Str} {f : Addr} {fd : FuncData} {ps : List Str} {F : PFn} (Fk : FnOk X.prog X.w X.K X.mg X.base (L2N.CX X.prog X.w) k f fd ps (spP F)) (hr : Room k X.A) (hg : Gl X x) (hm : X.mg x = some (.ref f)) (hk : PySem.W.keepIn X.K (.ref f) = true) (hb : Binds X.K fd ps []) (ha : DA B X (e :: es) t ga)
    (hdb : (x == ("__debug__" : Str)) = false := by decide) (he : starEach (e :: es) X.env = (false, eval e X.env) :: starEach es X.env := by rfl) (hpl : (backTo pos (starEach es X.env)).any (·.1) = false := by rfl) :
    DE B X (.Call (.Name x p) (e :: es) [] pos) (tCall (spP F) [] E0 t) (dCall F ga) := ⟨pe_call Fk hr hg hm hk hb .nil passN ha.pe hdb he hpl, snd_call ha.sd⟩
theorem de_callX {x : Str} {f : Addr} {fd : FuncData} {ps : List Str} {F : PFn} (Fk : FnOk X.prog X.w X.K X.mg X.base (L2N.CX X.prog X.w) k f fd ps (spP F)) (hr : Room k X.A) (hg : Gl X x) (hm : X.mg x = some (.ref f)) (hk : PySem.W.keepIn X.K (.ref f) = true) (hb : Binds X.K fd ps []) (hx : Passes (L2N.CX X.prog X.w) X B.E) (ha : DA B X (e :: es) t ga)
    (hdb : (x == ("__debug__" : Str)) = false := by decide) (he : starEach (e :: es) X.env = (false, eval e X.env) :: starEach es X.env := by rfl) (hpl : (backTo pos (starEach es X.env)).any (·.1) = false := by rfl) :
    DE B X (.Call (.Name x p) (e :: es) [] pos) (tCall (spP F) [] B.E t) (dCallX F ga) := ⟨pe_call Fk hr hg hm hk hb .nil hx ha.pe hdb he hpl, snd_callX ha.sd⟩
end

/-! ### a def keeps its promise -/
section
variable {P : Program} {w : World} {K : PySem.W.Frag} {mg : Str → Option Value} {base : Heap}
theorem fn_P {x qual : Str} {st : Stmt} {f : Addr} {fd : FuncData} {N ps : List Str} {k : Nat} (Fu : Fun K x qual st f fd) (Sc : FnScope N ps (defScope st)) {F : PFn} (g : DenS R0)
    (hlen : ∀ ds r, F ds = some r → ds.length = ps.length)
    (hbody : ∀ (cdv : Value) (A : Around) (outer : List Env) (s : Shared) (S H : Hp) (E : XK), Room k (A.deeper (envOfC qual (defScope st) s.heap.objs.size f cdv)) →
      ∃ t, DSs ⟨R0, S, H, E⟩ (cxOf (L2N.CX P w) P w K mg base N qual (defScope st) f cdv A outer s H E) (defBody st) t g)
    (heq : ∀ ds r, F ds = some r → Gd (g (entry N.length [] ds ())) r) : FnOk P w K mg base (L2N.CX P w) (k + 1) f fd ps (spP F) := by
  refine okN Fu Sc (fun vs H Q E h => ?_) (fun cdv A outer s H vs Q E hr h => ?_)
  · obtain ⟨ws, S, γ, ds, r, e0, _, _, _, ha, e, _⟩ := h
    rw [e0, List.nil_append, Paired.length ha, hlen ds r e]
  · obtain ⟨ws, S, γ, ds, r, e0, hS, hM, hok, ha, e, ret⟩ := h
    have e1 : ws = vs := e0.symm
    subst e1
    obtain ⟨t, D⟩ := hbody cdv A outer s S H E hr
    have hl : ([] ++ ws : List V).length ≤ N.length := by
      rw [List.nil_append, Paired.length ha, hlen ds r e]
      have : (N.take ps.length).length = ps.length := by rw [Sc.pre]
      rw [List.length_take] at this
      omega
    exact ⟨t, D.pe, run_body D hS hM hok ha hl (heq ds r e) ret⟩
end
end Kn
set_option Elab.async false
set_option linter.all false
set_option maxRecDepth 100000
set_option maxHeartbeats 4000000
namespace Kn
open PySem PySem.Spec L2
open PyProof.Rows hiding St
section
variable {X : Cx} {B : Bs} {a b c e tg : Expr} {es rest : List Expr} {ta tb tc te : TE} {ga gb gc ge : Den B.R} {pos : Pos} {k : Nat} {t : TA} {g : DenA B.R}
/-! ### xs.index(e) -/
def findD (d : PyData) : List PyData → Option Nat
  | [] => none
  | z :: r => if PyData.eqv z d = true then some 0 else (findD d r).map (· + 1)
theorem findD_spec {d : PyData} : ∀ {ds : List PyData} {j : Nat}, findD d ds = some j → (∃ z, ds[j]? = some z ∧ PyData.eqv z d = true) ∧ ∀ m z', m < j → ds[m]? = some z' → PyData.eqv z' d = false
  | [], _, h => by cases h
  | z :: r, j, h => by
    unfold findD at h
    by_cases e : PyData.eqv z d = true
    · rw [if_pos e] at h
      cases h
      exact ⟨⟨z, rfl, e⟩, fun m z' hm => absurd hm (Nat.not_lt_zero m)⟩
    · rw [if_neg e] at h
      obtain ⟨j', e1, e2⟩ := Option.map_eq_some_iff.mp h
      subst e2
      obtain ⟨⟨y, h1, h2⟩, h3⟩ := findD_spec e1
      refine ⟨⟨y, h1, h2⟩, fun m z' hm hz => ?_⟩
      cases m with
      | zero =>
        cases hz
        exact Bool.eq_false_iff.mpr e
      | succ m => exact h3 m z' (Nat.lt_of_succ_lt_succ hm) hz
def fIndex (d : PyData) (ds : List PyData) : Option Nat := if flatD d = true ∧ ds.all flatD = true then findD d ds else none
def dIndex {R : Rsc} (g : Den R) (h : DenA R) : Den R := fun τ => (g τ).bind fun p => match p.1.seq with
  | some ds => (h p.2).bind fun q => match q.1 with
    | [.sh d] => match fIndex d ds with
      | some j => .ok (.sh (.int j), q.2)
      | none => .bad
    | _ => .bad
  | none => .bad
theorem index_at {S : Hp} {x : V} {d : PyData} {ys : List V} {ds : List PyData} {j : Nat} (kd : Dq S x d) (ks : DqA S ys ds) (e : fIndex d ds = some j) :
    flatV x = true ∧ ys.all flatV = true ∧ ∃ z, ys[j]? = some z ∧ eqV z x = true ∧ ∀ (m : Nat) (z' : V), m < j → ys[m]? = some z' → eqV z' x = false := by
  unfold fIndex at e
  split at e
  · rename_i hf
    obtain ⟨⟨z, h1, h2⟩, h3⟩ := findD_spec e
    obtain ⟨v, e1, q1⟩ := ks.get' h1
    have fl : ∀ {z : PyData} {m : Nat}, ds[m]? = some z → flatD z = true := fun {z m} h => List.all_eq_true.mp hf.2 z (List.mem_of_getElem? h)
    refine ⟨flat_of kd hf.1, flat_ofA ks hf.2, v, e1, ?_, fun m z' hm hz => ?_⟩
    · rw [eqV_eqv q1 kd (fl h1) hf.1]
      exact h2
    · obtain ⟨dz, e2, q2⟩ := ks.get hz
      rw [eqV_eqv q2 kd (fl e2) hf.1]
      exact h3 m dz hm e2
  · cases e
theorem de_index {o : Expr} {apos cpos : Pos} (ho : DE B X o ta ga) (ha : DA B X (e :: es) t g)
    (hbase : attributeBase o "index" X.env (eval o X.env) = eval o X.env := by rfl)
    (hfew : ((backTo cpos (starEach (e :: es) X.env)).all (fun x => !x.1) && (backToKw cpos (keywordEach [] X.env)).all (fun x => x.1.isSome)
      && decide ((e :: es).length + ([] : List Keyword).length + (if ([] : List Keyword).isEmpty then 0 else 1) < 30)) = true := by rfl)
    (hline : (apos.endLine == cpos.line) = true := by rfl) (hs : starEach (e :: es) X.env = (false, eval e X.env) :: starEach es X.env := by rfl) (hplain : (backTo cpos (starEach es X.env)).any (·.1) = false := by rfl) :
    DE B X (.Call (.Attribute o "index" apos) (e :: es) [] cpos) (tIndexA X.K ta t) (dIndex ga g) := by
  refine ⟨pe_indexA ho.pe ha.pe hbase hfew hline hs hplain, fun S H σ τ Q R q => ho.sd S H σ τ _ R (Sat.step (f := fun p => match p.1.seq with
    | some ds => (g p.2).bind fun q => match q.1 with
      | [.sh d] => match fIndex d ds with
        | some j => .ok (Val.sh (.int j), q.2)
        | none => .bad
      | _ => .bad
    | none => .bad) q fun x τ1 v S1 H1 _ G1 R1 o1 _ h1 => ?_)⟩
  cases es : x.seq with
  | none =>
    simp only [es] at h1
    exact h1.elim
  | some ds =>
    simp only [es] at h1
    have fin : ∀ {S2 H2 : Hp} {τ2 : Tau B.R} {vals : List Val} {ws ys : List V}, Rel B S2 H2 σ τ2 → Paired (fun v val => VOk B S2 H2 σ τ2.sl v val) ws vals → DqA S2 ys ds →
        Sat B (okV B σ) S2 H2 τ2 (match vals with
          | [.sh d] => match fIndex d ds with
            | some j => .ok (Val.sh (.int j), τ2)
            | none => .bad
          | _ => .bad) Q → ∃ (y : V) (j : Nat) (z : V), ws = [y] ∧ flatV y = true ∧ ys.all flatV = true ∧ ys[j]? = some z ∧ eqV z y = true ∧ (∀ (m : Nat) (z' : V), m < j → ys[m]? = some z' → eqV z' y = false) ∧ Q (.int (j : Nat)) H2 := fun {S2 H2 τ2 vals ws ys} R2 o2 ks h2 => by
      split at h2
      · rename_i d
        match o2 with
        | .cons kd .nil =>
          split at h2
          · rename_i j ej
            obtain ⟨f1, f2, z, g1, g2, g3⟩ := index_at kd ks ej
            exact ⟨_, j, z, rfl, f1, f2, g1, g2, g3, h2 _ S2 H2 .refl R2 (Dq.int _) frS⟩
          · exact h2.elim
      · exact h2.elim
    rcases seq_tup es with e1 | e1
    · obtain ⟨p, ys, rfl, hh, hm, ks⟩ := VOk.lst R1 o1 e1
      refine ⟨p, ys, rfl, .inl ⟨hh, ha.sd S1 H1 σ τ1 _ R1 (Sat.step h1 fun vals τ2 ws S2 H2 _ G2 R2 o2 _ h2 => ?_)⟩⟩
      obtain ⟨y, j, z, q1, q2, q3, q4, q5, q6, q7⟩ := fin R2 o2 (ks.mono G2.s) h2
      exact ⟨p, ys, y, j, z, rfl, q1, SqL.of (G2.h _ _ hm hh), q2, q3, q4, q5, q6, q7⟩
    · obtain ⟨p, ob, ys, rfl, hh, hn, ks⟩ := VOk.tup o1 e1
      refine ⟨p, ys, rfl, .inr ⟨⟨ob, R1.sub _ _ hh, hn⟩, ha.sd S1 H1 σ τ1 _ R1 (Sat.step h1 fun vals τ2 ws S2 H2 _ G2 R2 o2 _ h2 => ?_)⟩⟩
      obtain ⟨y, j, z, q1, q2, q3, q4, q5, q6, q7⟩ := fin R2 o2 (ks.mono G2.s) h2
      exact ⟨p, ys, y, j, z, rfl, q1, sqtF (R2.sub _ _ (G2.s _ _ hh)), q2, q3, q4, q5, q6, q7⟩
/-! ### sorted of ints, a list or a tuple -/
def fSortedA : List Val → Option Val
  | [a] => (a.seq.bind asInts).map fun ns => .fr (nsD (isort ns))
  | _ => none
def rSortedA (K : PySem.W.Frag) : List V → Hp → VK → Prop := fun vs H Q => rSortedI K vs H Q ∨ rSortedTI K vs H Q
theorem cr_sortedA : CallR X (.builtin "sorted") (rSortedA X.K) := cr_sortedI.or cr_sortedTI
theorem s_sortedA {K : PySem.W.Frag} : CallS B (rSortedA K) fSortedA := by
  intro S H σ τ vs as c Q R ka e q
  cases ka with
  | nil => cases e
  | cons a r =>
    cases r with
    | cons _ _ => cases e
    | nil =>
      obtain ⟨ns, e1, e2⟩ := Option.map_eq_some_iff.mp (show (Option.bind _ _).map _ = _ from e)
      subst e2
      obtain ⟨ds, e3, e4⟩ := Option.bind_eq_some_iff.mp e1
      rcases seq_tup e3 with e3 | e3
      · obtain ⟨p, ws, rfl, h, _, kk⟩ := VOk.lst R a e3
        rw [of_asInts e4] at kk
        rw [kk.of_nsD] at h
        refine .inl ⟨p, ns, rfl, SqL.of h, fun ns' t pm pw ht => ?_⟩
        rw [eq_isort pm pw]
        obtain ⟨g2, r2, k2, f2⟩ := lay_lst R ht (DqA.ints_ S (isort ns))
        exact q _ _ _ g2 r2 k2 f2
      · obtain ⟨p, o, ws, rfl, h, _, kk⟩ := VOk.tup a e3
        rw [of_asInts e4] at kk
        rw [kk.of_nsD] at h
        refine .inr ⟨p, ns, rfl, sqtF (R.sub _ _ h), fun ns' t pm pw ht => ?_⟩
        rw [eq_isort pm pw]
        obtain ⟨g2, r2, k2, f2⟩ := lay_lst R ht (DqA.ints_ S (isort ns))
        exact q _ _ _ g2 r2 k2 f2
/-! ### len(set(t)) -/
def dLenSet {R : Rsc} (g : Den R) : Den R := fun τ => (g τ).bind fun p => match p.1.tup.bind asInts with
  | some ns => if ns.length ≤ 4000 then .ok (.sh (.int (dedup ns).length), p.2) else .bad
  | none => .bad
theorem de_lenset {p p2 q : Pos} (hg : Gl X "len") (hm : X.mg "len" = none) (hg2 : Gl X "set") (hm2 : X.mg "set" = none) (ha : DE B X a ta ga) (hc : X.calm = true := by rfl)
    (na : starEach [a] X.env = (false, eval a X.env) :: starEach [] X.env := by rfl) : DE B X (.Call (.Name "len" p) [.Call (.Name "set" p2) [a] [] q] [] pos) (tLenSetT X.K ta) (dLenSet ga) := by
  refine ⟨pe_lenSetT hg hm hg2 hm2 ha.pe hc na, fun S H σ τ Q R q => ha.sd S H σ τ _ R (Sat.step (f := fun p => match p.1.tup.bind asInts with
    | some ns => if ns.length ≤ 4000 then .ok (Val.sh (.int (dedup ns).length), p.2) else .bad
    | none => .bad) q fun x τ1 v S1 H1 _ G1 R1 o1 _ h1 => ?_)⟩
  cases es : x.tup.bind asInts with
  | none => simp only [es] at h1; exact h1.elim
  | some ns =>
    simp only [es] at h1
    obtain ⟨p, ob, rfl, hh⟩ := VOk.tupI o1 es
    by_cases hz : ns.length ≤ 4000
    · rw [if_pos hz] at h1
      exact ⟨p, ns, rfl, sqtF (R1.sub _ _ hh), hz, h1 _ S1 H1 .refl R1 (Dq.int _) frS⟩
    · rw [if_neg hz] at h1
      exact h1.elim
/-! ### enumerate, zip: what is walked is frozen (de_sh) -/
def enumD (n : Nat) : List PyData → List PyData
  | [] => []
  | d :: ds => .tuple [.int (n : Nat), d] :: enumD (n + 1) ds
theorem enumD_get : ∀ {ds : List PyData} {n i : Nat} {d : PyData}, (enumD n ds)[i]? = some d → ∃ x, ds[i]? = some x ∧ d = .tuple [.int ((n + i : Nat) : Int), x]
  | [], _, _, _, h => by simp [enumD] at h
  | x :: ds, n, 0, d, h => by
    have h : some (PyData.tuple [.int (n : Nat), x]) = some d := h
    cases h
    exact ⟨x, rfl, rfl⟩
  | x :: ds, n, i + 1, d, h => by
    obtain ⟨y, h1, h2⟩ := enumD_get (ds := ds) (n := n + 1) (i := i) (d := d) h
    exact ⟨y, h1, by rw [h2]; congr 4; omega⟩
theorem enumD_len : ∀ (ds : List PyData) (n : Nat), (enumD n ds).length = ds.length
  | [], _ => rfl
  | _ :: ds, n => congrArg (· + 1) (enumD_len ds (n + 1))
theorem yok_pair {S : Hp} {H H' : Hp} {v : V} {i : Nat} {f g : Nat → Option V} {d d1 d2 : PyData} (y : YPair f g i H v H') (h1 : ∀ x, f i = some x → Dq S x d1) (h2 : ∀ x, g i = some x → Dq S x d2) (e : d = .tuple [d1, d2]) : YOk true S H v H' d := by
  obtain ⟨T, x, z, rfl, hT, rfl, e1, e2⟩ := y
  exact .inr ⟨rfl, T, [x, z], [d1, d2], rfl, hT, rfl, e, .cons (h1 x e1) (.cons (h2 z e2) .nil)⟩
theorem one_lst {S H : Hp} {σ : St} {sl : List Sl} {ws : List V} {ds : List PyData} (o : Paired (fun v val => VOk B S H σ sl v val) ws [.sh (.list ds)]) : ∃ a xs, ws = [.ref a] ∧ S a = some (.lst xs) ∧ DqA S xs ds := by
  cases o with
  | cons k r =>
    cases r
    cases k with
    | lst h q => exact ⟨_, _, rfl, h, q⟩
theorem one_tup {S H : Hp} {σ : St} {sl : List Sl} {ws : List V} {ds : List PyData} (o : Paired (fun v val => VOk B S H σ sl v val) ws [.sh (.tuple ds)]) : ∃ a ob xs, ws = [.ref a] ∧ S a = some (.frz ob (.tup xs)) ∧ DqA S xs ds := by
  cases o with
  | cons k r =>
    cases r
    cases k with
    | tup h _ q => exact ⟨_, _, _, rfl, h, q⟩
def dEnum {R : Rsc} (h : DenA R) : DenI R := fun τ => (h τ).bind fun q => match q.1 with
  | [.sh (.list ds)] => .ok (enumD 0 ds, q.2)
  | [.sh (.tuple ds)] => .ok (enumD 0 ds, q.2)
  | _ => .bad
theorem di_enum {p tpos : Pos} {elts : List Expr} {kk : Nat} (hg : Gl X "enumerate") (hm : X.mg "enumerate" = none) (ha : DA B X [e] t g) (hs : starEach [e] X.env = [(false, eval e X.env)] := by rfl) :
    DI B true X (.Tuple elts kk tpos) (.Call (.Name "enumerate" p) [e] [] pos) (iEnumA X.K t) (dEnum g) := by
  refine ⟨pi_enumA hg hm ha.pe hs, fun S H σ τ R' R q => ha.sd S H σ τ _ R (Sat.step (f := fun q => match q.1 with
    | [.sh (.list ds)] => .ok (enumD 0 ds, q.2)
    | [.sh (.tuple ds)] => .ok (enumD 0 ds, q.2)
    | _ => .bad) q fun vals τ1 ws S1 H1 _ G1 R1 o1 _ h1 => ?_)⟩
  split at h1
  · rename_i ds e1
    simp only at e1
    subst e1
    · obtain ⟨a, xs, rfl, hh, ks⟩ := one_lst o1
      refine ⟨a, xs, rfl, .inl ⟨SqL.of (R1.sub _ _ hh), h1 _ S1 H1 .refl R1 ⟨fun H => SqL X.K H a xs, _, by rw [enumD_len, ← ks.len]; exact walk_enum, fun S2 H2 s1 s2 _ => SqL.of (s2 _ _ (s1 _ _ hh)), fun i Ha x Hb d S2 e s1 s2 _ y => ?_⟩ trivial⟩⟩
      obtain ⟨z, e1, e2⟩ := enumD_get e
      refine yok_pair y (d1 := .int ((0 + i : Nat) : Int)) (d2 := z) (fun w ew => ?_) (fun w ew => ?_) e2
      · cases ew
        rw [Nat.zero_add]
        exact .int _
      · obtain ⟨d', e3, q⟩ := ks.get ew
        rw [e1] at e3
        cases e3
        exact q.mono s1
  · rename_i ds e1
    simp only at e1
    subst e1
    · obtain ⟨a, ob, xs, rfl, hh, ks⟩ := one_tup o1
      refine ⟨a, xs, rfl, .inr ⟨sqtF (R1.sub _ _ hh), h1 _ S1 H1 .refl R1 ⟨fun H => SqT X.K H a xs, _, by rw [enumD_len, ← ks.len]; exact walk_enumT, fun S2 H2 s1 s2 _ => sqtF (s2 _ _ (s1 _ _ hh)), fun i Ha x Hb d S2 e s1 s2 _ y => ?_⟩ trivial⟩⟩
      obtain ⟨z, e1, e2⟩ := enumD_get e
      refine yok_pair y (d1 := .int ((0 + i : Nat) : Int)) (d2 := z) (fun w ew => ?_) (fun w ew => ?_) e2
      · cases ew
        rw [Nat.zero_add]
        exact .int _
      · obtain ⟨d', e3, q⟩ := ks.get ew
        rw [e1] at e3
        cases e3
        exact q.mono s1
  · exact h1.elim
end
end Kn
set_option Elab.async false
set_option linter.all false
set_option maxRecDepth 100000
set_option maxHeartbeats 4000000
namespace Kn
open PySem PySem.Spec L2
open PyProof.Rows hiding St
/-! ### built-ins that the module leaves as they are -/
structure BI (mg : Str → Option Value) : Prop where
  len_ : mg "len" = none
  sum_ : mg "sum" = none
  sorted_ : mg "sorted" = none
  all_ : mg "all" = none
  max_ : mg "max" = none
  min_ : mg "min" = none
  int_ : mg "int" = none
  bool_ : mg "bool" = none
  str_ : mg "str" = none
  tuple_ : mg "tuple" = none
  list_ : mg "list" = none
  dict_ : mg "dict" = none
  set_ : mg "set" = none
  range_ : mg "range" = none
  enumerate_ : mg "enumerate" = none
  zip_ : mg "zip" = none
  isinstance_ : mg "isinstance" = none
  repr_ : mg "repr" = none
/-! ### what may be called -/
structure Cal (P : Program) (w : World) (K : PySem.W.Frag) (mg : Str → Option Value) (base : Heap) (x : Str) (k : Nat) (F : PFn) : Prop where
  ex : ∃ (f : Addr) (fd : FuncData) (ps : List Str), FnOk P w K mg base (L2N.CX P w) k f fd ps (spP F) ∧ mg x = some (.ref f) ∧ PySem.W.keepIn K (.ref f) = true ∧ Binds K fd ps []
theorem Cal.of {P : Program} {w : World} {K : PySem.W.Frag} {mg : Str → Option Value} {base : Heap} {x : Str} {k : Nat} {F : PFn} {f : Addr} {fd : FuncData} {ps : List Str} (h : FnOk P w K mg base (L2N.CX P w) (k + 1) f fd ps (spP F)) (gm : mg x = some (.ref f)) (kp : PySem.W.keepIn K (.ref f) = true) (b : Binds K fd ps []) : Cal P w K mg base x (k + 1) F := ⟨f, fd, ps, h, gm, kp, b⟩
section
variable {X : Cx} {B : Bs} {a b c e tg : Expr} {es rest : List Expr} {ta tb tc te : TE} {ga gb gc ge : Den B.R} {pos p : Pos} {k : Nat} {t : TA} {g : DenA B.R}
theorem de_cal {x : Str} {F : PFn} (c : Cal X.prog X.w X.K X.mg X.base x k F) (hr : Room k X.A) (hg : Gl X x) (ha : DA B X (e :: es) t g)
    (hdb : (x == ("__debug__" : Str)) = false := by decide) (he : starEach (e :: es) X.env = (false, eval e X.env) :: starEach es X.env := by rfl) (hpl : (backTo pos (starEach es X.env)).any (·.1) = false := by rfl) :
    DE B X (.Call (.Name x p) (e :: es) [] pos) (tCall (spP F) [] E0 t) (dCall F g) := by
  obtain ⟨f, fd, ps, h, gm, kp, b⟩ := c.ex
  exact de_call h hr hg gm kp b ha hdb he hpl
theorem de_calX {x : Str} {F : PFn} (c : Cal X.prog X.w X.K X.mg X.base x k F) (hr : Room k X.A) (hg : Gl X x) (hx : Passes (L2N.CX X.prog X.w) X B.E) (ha : DA B X (e :: es) t g)
    (hdb : (x == ("__debug__" : Str)) = false := by decide) (he : starEach (e :: es) X.env = (false, eval e X.env) :: starEach es X.env := by rfl) (hpl : (backTo pos (starEach es X.env)).any (·.1) = false := by rfl) :
    DE B X (.Call (.Name x p) (e :: es) [] pos) (tCall (spP F) [] B.E t) (dCallX F g) := by
  obtain ⟨f, fd, ps, h, gm, kp, b⟩ := c.ex
  exact de_callX h hr hg gm kp b hx ha hdb he hpl
/-! ### statements in short -/
theorem ds_append (i : Nat) {x : Str} {p apos cpos : Pos} (he : DE B X e te ge) (hN : X.N[i]? = some x := by rfl) (hv : Vis X.env.scope x := by first | exact Or.inl rfl | exact Or.inr (Or.inl rfl) | exact Or.inr (Or.inr rfl))
    (hbase : attributeBase (.Name x p) "append" X.env (eval (.Name x p) X.env) = eval (.Name x p) X.env := by rfl)
    (hfew : ((backTo cpos (starEach [e] X.env)).all (fun x => !x.1) && (backToKw cpos (keywordEach [] X.env)).all (fun x => x.1.isSome)
      && decide ([e].length + ([] : List Keyword).length + (if ([] : List Keyword).isEmpty then 0 else 1) < 30)) = true := by rfl)
    (hline : (apos.endLine == cpos.line) = true := by rfl) (hs : starEach [e] X.env = (false, eval e X.env) :: starEach [] X.env := by rfl) (hplain : (backTo cpos (starEach [] X.env)).any (·.1) = false := by rfl)
    (hsw : swapsWith (.Call (.Attribute (.Name x p) "append" apos) [e] [] cpos) none pos.line X.env = pure false := by rfl) (hd : (x == ("__debug__" : Str)) = false := by decide) (hcd : (x == ("__classdict__" : Str)) = false := by decide) :
    DS B X (.Expr (.Call (.Attribute (.Name x p) "append" apos) [e] [] cpos) pos) (tDrop (tBM X.K "list" rAppend (tVar i) (tCons te tNil))) (dApp i ge) :=
  ds_app i he (pe_bm PySem.F.plainAttrs_list PySem.F.slot_list_append PySem.F.type_list_append mt_append (pe_var hN hv hd hcd) (pa_cons he.pe pa_nil hs) hbase hfew hline hs hplain) hsw
theorem ds_par2 {i j : Nat} {x y : Str} {px py pt : Pos} {kt k2 pt2} (hc : X.calm = true) (hN : X.N.Nodup) (hi : X.N[i]? = some x) (hj : X.N[j]? = some y) (hij : i ≠ j)
    (hx : X.env.scope.names.lookup x = some .local) (hy : X.env.scope.names.lookup y = some .local) (ha : DE B X a ta ga) (hb : DE B X b tb gb)
    (hw : swappedStores [.Tuple [.Name x px, .Name y py] kt pt] (.Tuple [a, b] k2 pt2) X.env = pure (some [x, y]) := by rfl)
    (hs : swapsWithSole [.Tuple [.Name x px, .Name y py] kt pt] (.Tuple [a, b] k2 pt2) pos.line X.env = pure false := by rfl)
    (s1 : starEach [a, b] X.env = (false, eval a X.env) :: starEach [b] X.env := by rfl) (s2 : starEach [b] X.env = (false, eval b X.env) :: starEach [] X.env := by rfl) :
    DS B X (.Assign [.Tuple [.Name x px, .Name y py] kt pt] (.Tuple [a, b] k2 pt2) pos) (tPar i j (tCons ta (tCons tb tNil))) (dPar i j ga gb) :=
  ds_par hc hN hi hj hij ha hb (ps_par hc hN hi hj hij hx hy (pa_cons ha.pe (pa_cons hb.pe pa_nil s2) s1) hw hs)
/-- x.insert(i, e) -/
def dIns {R : Rsc} (i : Nat) (g h : Den R) : DenS R := fun τ => match τ.sl[i]? with
  | some (.ow _) => (g τ).bind fun p => match p.1.int with
    | some n => (h p.2).bind fun q => match q.1, q.2.sl[i]? with
      | .sh d, some (.ow ds) => if ds.length < sizeLine ∧ 0 ≤ n ∧ n < 2 ^ 63 then .ok (.nx (q.2.put i (.ow (ds.take n.toNat ++ [d] ++ ds.drop n.toNat)))) else .bad
      | _, _ => .bad
    | none => .bad
  | _ => .bad
def rInsert : V → List V → Hp → VK → Prop := fun x vs H Q => ∃ (l : Addr) (xs : List V) (i : Int) (y : V), x = .ref l ∧ vs = [.int i, y] ∧ H l = some (.lst xs) ∧ xs.length < sizeLine ∧ 0 ≤ i ∧ i < 2 ^ 63 ∧
    Q .non (upd H l (.lst (xs.take i.toNat ++ [y] ++ xs.drop i.toNat)))
theorem ds_insert (i : Nat) {x : Str} {p apos cpos : Pos} (ha : DE B X a ta ga) (hb : DE B X b tb gb) (hN : X.N[i]? = some x := by rfl) (hv : Vis X.env.scope x := by first | exact Or.inl rfl | exact Or.inr (Or.inl rfl) | exact Or.inr (Or.inr rfl))
    (hbase : attributeBase (.Name x p) "insert" X.env (eval (.Name x p) X.env) = eval (.Name x p) X.env := by rfl)
    (hfew : ((backTo cpos (starEach [a, b] X.env)).all (fun x => !x.1) && (backToKw cpos (keywordEach [] X.env)).all (fun x => x.1.isSome)
      && decide ([a, b].length + ([] : List Keyword).length + (if ([] : List Keyword).isEmpty then 0 else 1) < 30)) = true := by rfl)
    (hline : (apos.endLine == cpos.line) = true := by rfl) (hs : starEach [a, b] X.env = (false, eval a X.env) :: starEach [b] X.env := by rfl) (hs2 : starEach [b] X.env = (false, eval b X.env) :: starEach [] X.env := by rfl) (hplain : (backTo cpos (starEach [b] X.env)).any (·.1) = false := by rfl)
    (hsw : swapsWith (.Call (.Attribute (.Name x p) "insert" apos) [a, b] [] cpos) none pos.line X.env = pure false := by rfl) (hd : (x == ("__debug__" : Str)) = false := by decide) (hcd : (x == ("__classdict__" : Str)) = false := by decide) :
    DS B X (.Expr (.Call (.Attribute (.Name x p) "insert" apos) [a, b] [] cpos) pos) (tDrop (tBM X.K "list" rInsert (tVar i) (tCons ta (tCons tb tNil)))) (dIns i ga gb) := by
  refine ⟨ps_expr (pe_bm PySem.F.plainAttrs_list PySem.F.slot_list_insert PySem.F.type_list_insert mt_insert (pe_var hN hv hd hcd) (pa_cons ha.pe (pa_cons hb.pe pa_nil hs2) hs) hbase hfew hline hs hplain) hsw, fun S H σ τ D R q => ?_⟩
  unfold dIns at q
  split at q
  · rename_i ds0 e0
    obtain ⟨a', vs, ea, h1, k1, _⟩ := R.setOw e0
    refine ⟨.ref a', ea, .inl ⟨rfl, _, SqL.of h1⟩, ha.sd S H σ τ _ R (sat_e q fun val τ1 v S1 H1 _ G1 R1 o1 _ q => ?_)⟩
    simp only at q
    split at q
    · rename_i n en
      obtain ⟨rfl, _⟩ := VOk.int o1 en
      refine hb.sd S1 H1 σ τ1 _ R1 (sat_e q fun val2 τ2 w S2 H2 eg G2 R2 o2 f2 q => ?_)
      simp only at q
      split at q
      · rename_i d f3 ds e2
        obtain ⟨a2, ws, ea', h2, k2, up⟩ := R2.setOw e2
        rw [ea] at ea'
        cases ea'
        split at q
        · rename_i hz
          refine ⟨a', ws, n, w, rfl, rfl, h2, by rw [k2.len]; exact hz.1, hz.2.1, hz.2.2, q S2 _ σ (Same.refl _) (up _ _ ?_)⟩
          exact ((k2.take _).append (.cons o2 .nil)).append (k2.drop _)
        · exact q.elim
      · exact q.elim
    · exact q.elim
  · exact q.elim
theorem ds_setitem (i : Nat) {x : Str} {p p2 : Pos} (hb : DE B X b tb gb) (he : DE B X e te ge) (hN : X.N[i]? = some x := by rfl) (hv : Vis X.env.scope x := by first | exact Or.inl rfl | exact Or.inr (Or.inl rfl) | exact Or.inr (Or.inr rfl))
    (ha : ∀ v, assign (.Subscript (.Name x p) b p2) X.env v = (do
      let ov ← holding [v] (eval (.Name x p) X.env)
      let iv ← holding [v, ov] (eval b X.env)
      standAt p2
      holding [v, ov, iv] (setItem ov iv v)
      release [v, ov, iv] []) := by intro _; rfl)
    (hs : swapsWithSole [.Subscript (.Name x p) b p2] e pos.line X.env = pure false := by rfl) (hw : swappedStores [.Subscript (.Name x p) b p2] e X.env = pure none := by rfl) (h1 : (assignEach [.Subscript (.Name x p) b p2] X.env).map (·.2) = [assign (.Subscript (.Name x p) b p2) X.env] := by rfl)
    (hd : (x == ("__debug__" : Str)) = false := by decide) (hcd : (x == ("__classdict__" : Str)) = false := by decide) :
    DS B X (.Assign [.Subscript (.Name x p) b p2] e pos) (tAsg te (gSub (tVar i) tb rSetL)) (dSetIx i ge gb) :=
  ds_setix i hb he (ps_asg he.pe (pg_sub (pe_var hN hv hd hcd) hb.pe set_list ha) hs hw h1)
/-! ### the same where the written part is named apart (within a comprehension's block) -/
variable {K : PySem.W.Frag} {gl gh : DenO B.R} {l tg : Expr} {tl : TE}
theorem be_add (ha : DE B X a ta ga) (hb : DE B X b tb gb) (hK : X.K = K := by rfl) : DE B X (.BinOp a .Add b pos) (tOp (rAddA K) ta tb) (dOp fAdd ga gb) := by
  subst hK
  exact de_add ha hb
theorem be_ix (ha : DE B X a ta ga) (hb : DE B X b tb gb) (hs : PlainIx b := by exact fun _ _ => rfl) (hK : X.K = K := by rfl) : DE B X (.Subscript a b pos) (tOp (rIx K) ta tb) (dOp fIx ga gb) := by
  subst hK
  exact de_ix ha hb hs
theorem be_slice {lo hi : Option Expr} {tl th : TO} {gl gh : DenO B.R} {p2 : Pos} (ha : DE B X e te ge) (hl : DO B X lo tl gl) (hh : DO B X hi th gh) (hK : X.K = K := by rfl) : DE B X (.Subscript e (.Slice lo hi none p2) pos) (tSl (rSlB K) te tl th) (dSl ge gl gh) := by
  subst hK
  exact de_slice ha hl hh
theorem be_index {o : Expr} {apos cpos : Pos} (ho : DE B X o ta ga) (ha : DA B X (e :: es) t g)
    (hbase : attributeBase o "index" X.env (eval o X.env) = eval o X.env := by rfl)
    (hfew : ((backTo cpos (starEach (e :: es) X.env)).all (fun x => !x.1) && (backToKw cpos (keywordEach [] X.env)).all (fun x => x.1.isSome)
      && decide ((e :: es).length + ([] : List Keyword).length + (if ([] : List Keyword).isEmpty then 0 else 1) < 30)) = true := by rfl)
    (hline : (apos.endLine == cpos.line) = true := by rfl) (hs : starEach (e :: es) X.env = (false, eval e X.env) :: starEach es X.env := by rfl) (hplain : (backTo cpos (starEach es X.env)).any (·.1) = false := by rfl) (hK : X.K = K := by rfl) :
    DE B X (.Call (.Attribute o "index" apos) (e :: es) [] cpos) (tIndexA K ta t) (dIndex ga g) := by
  subst hK
  exact de_index ho ha hbase hfew hline hs hplain
theorem be_lenset {p p2 q : Pos} (hg : Gl X "len") (hm : X.mg "len" = none) (hg2 : Gl X "set") (hm2 : X.mg "set" = none) (ha : DE B X a ta ga) (hc : X.calm = true := by rfl)
    (na : starEach [a] X.env = (false, eval a X.env) :: starEach [] X.env := by rfl) (hK : X.K = K := by rfl) : DE B X (.Call (.Name "len" p) [.Call (.Name "set" p2) [a] [] q] [] pos) (tLenSetT K ta) (dLenSet ga) := by
  subst hK
  exact de_lenset hg hm hg2 hm2 ha hc na
theorem bi_seq {gl : Den B.R} (h : DE B X l tl gl) (hK : X.K = K := by rfl) : DI B false X tg l (iSeq K tl) (dSeq gl) := by
  subst hK
  exact di_seq h
theorem bi_arg (i : Nat) {x : Str} {pos : Pos} (hN : X.N[i]? = some x := by rfl) (hv : Vis X.env.scope x := by first | exact Or.inl rfl | exact Or.inr (Or.inl rfl) | exact Or.inr (Or.inr rfl)) (hd : (x == ("__debug__" : Str)) = false := by decide)
    (hcd : (x == ("__classdict__" : Str)) = false := by decide) (hK : X.K = K := by rfl) : DI B false X tg (.Name x pos) (iSeq K (tVar i)) (dSeqA i) := by
  subst hK
  exact di_arg i hN hv hd hcd
theorem bi_enum {p tpos : Pos} {elts : List Expr} {kk : Nat} (hg : Gl X "enumerate") (hm : X.mg "enumerate" = none) (ha : DA B X [e] t g) (hs : starEach [e] X.env = [(false, eval e X.env)] := by rfl) (hK : X.K = K := by rfl) :
    DI B true X (.Tuple elts kk tpos) (.Call (.Name "enumerate" p) [e] [] pos) (iEnumA K t) (dEnum g) := by
  subst hK
  exact di_enum hg hm ha hs
theorem bg_tup {lz : Bool} {k : Nat} {t : TGs} {n : Nat} {g : List PyData → Tau B.R → Option (Tau B.R)} {is : List Nat} (hc : X.calm = true) (h : DGs B X es t g is) (hn : ∀ ds τ τ', g ds τ = some τ' → ds.length = n) (hn2 : (assignEach es X.env).length = n := by rfl) (hst : (assignEach es X.env).findIdx? (·.1) = none := by rfl) (hK : X.K = K := by rfl) : DG B lz X (.Tuple es k pos) (gTup K n t) (setTup g) is := by
  subst hK
  exact dg_tup hc h hn hn2 hst
end
end Kn
set_option Elab.async false
set_option linter.all false
set_option maxRecDepth 100000
set_option maxHeartbeats 4000000
namespace Kn
open PySem PySem.Spec L2
open PyProof.Rows hiding St
/-! ### sorted(d.items()), a dict of ints to ints -/
abbrev pairV (p : Int × Int) : Key × V := (Sum.inl p.1, V.int p.2)
/-- new tuples laid, their objects told -/
def putF : Hp → List (Addr × Obj × List V) → Hp
  | H, l :: L => putF (upd H l.1 (.frz l.2.1 (.tup l.2.2))) L
  | H, [] => H
theorem putF_off {b : Addr} : ∀ (L : List (Addr × Obj × List V)) (H : Hp), b ∉ L.map (·.1) → putF H L b = H b
  | [], _, _ => rfl
  | l :: L, H, h => by
    rw [List.map_cons, List.mem_cons, not_or] at h
    show putF (upd H l.1 _) L b = H b
    rw [putF_off L _ h.2, upd_ne h.1]
theorem putF_at : ∀ (L : List (Addr × Obj × List V)) (H : Hp) (l : Addr × Obj × List V), (L.map (·.1)).Nodup → l ∈ L → putF H L l.1 = some (.frz l.2.1 (.tup l.2.2))
  | [], _, _, _, h => by cases h
  | m :: L, H, l, hn, h => by
    rw [List.map_cons, List.nodup_cons] at hn
    rcases List.mem_cons.mp h with rfl | h
    · show putF (upd H l.1 _) L l.1 = _
      rw [putF_off L _ hn.1, upd_same]
    · exact putF_at L _ l hn.2 h
def tSortedItems (te : TE) : TE := fun σ H Q => te σ H fun x H1 => ∃ (d : Addr) (ps : List (Int × Int)), x = .ref d ∧ H1 d = some (.dK (ps.map pairV)) ∧
  ∀ (L : List (Addr × Obj × List V)) (p : Addr) (bs : List Addr) (qs : List (Int × Int)), (L.map (·.1)).Nodup → (∀ l ∈ L, H1 l.1 = none ∧ l.2.1.dict = none ∧ ∃ q : Int × Int, l.2.2 = [V.int q.1, V.int q.2]) → p ∉ L.map (·.1) → H1 p = none → qs.Perm ps → qs.Pairwise (fun x y => SrtO.lexB y x = false) →
    Paired (fun b q => ∃ o, (b, o, [V.int q.1, V.int q.2]) ∈ L) bs qs → Q (.ref p) (upd (putF H1 L) p (.lst (bs.map V.ref)))
theorem find_zip {as : List Addr} {ps : List (Int × Int)} : as.Nodup → ∀ {j : Nat} {a : Addr} {q : Int × Int}, as[j]? = some a → ps[j]? = some q → ((as.zip ps).find? fun z => decide (Value.ref z.1 = Value.ref a)).map (·.2) = some q := by
  induction as generalizing ps with
  | nil => intro _ j a q h; simp at h
  | cons b as ih =>
    intro hn j a q h1 h2
    rw [List.nodup_cons] at hn
    cases ps with
    | nil => simp at h2
    | cons r ps =>
      rw [List.zip_cons_cons, List.find?_cons]
      cases j with
      | zero =>
        simp at h1 h2
        subst h1 h2
        simp
      | succ j =>
        have h1 : as[j]? = some a := by simpa using h1
        have ne : ¬ (Value.ref b = Value.ref a) := fun e => by
          cases e
          exact hn.1 (List.mem_of_getElem? h1)
        rw [decide_eq_false ne]
        exact ih hn.2 h1 (by simpa using h2)
/-- the abstract heap behind it is held -/
theorem items_inv {X : Cx} {pins : List (Addr × Obj)} {σ : St} {H : Hp} {s : Shared} {hf : Heap} {tk : Nat} {L : List (Addr × Obj × List V)} {B : Addr} {bs : List Addr} {e : Nat} (I : Inv X pins σ H s) (keep : ∀ b o, s.heap.get? b = some o → hf.get? b = some o)
    (hL : ∀ l ∈ L, s.heap.objs.size ≤ l.1 ∧ l.1 ≠ B ∧ hf.get? l.1 = some l.2.1 ∧ l.2.1.dict = none ∧ ObjOk X.prog X.w (upd (putF H L) B (.lst (bs.map V.ref))) hf l.1 (.tup l.2.2)) (nd : (L.map (·.1)).Nodup) (hB : s.heap.objs.size ≤ B)
    (eB : hf.get? B = some { cls := .type "list", data := .seq (bs.map Value.ref).toArray e }) (hz : bs.length ≤ sizeLine) : Inv X pins σ (upd (putF H L) B (.lst (bs.map V.ref))) { s with heap := hf, toks := tk } := by
  have low : ∀ b o, s.heap.get? b = some o → b ∉ L.map (·.1) ∧ b ≠ B := fun b o q => by
    have hlt := Heap.lt_size q
    refine ⟨fun z => ?_, Nat.ne_of_lt (Nat.lt_of_lt_of_le hlt hB)⟩
    obtain ⟨l, hl, rfl⟩ := List.mem_map.mp z
    exact absurd hlt (Nat.not_lt.mpr (hL l hl).1)
  have trk : ∀ b u, H b = some u → b ∉ L.map (·.1) ∧ b ≠ B := fun b u q => by
    have hlt := I.hok.lt q
    refine ⟨fun z => ?_, Nat.ne_of_lt (Nat.lt_of_lt_of_le hlt hB)⟩
    obtain ⟨l, hl, rfl⟩ := List.mem_map.mp z
    exact absurd hlt (Nat.not_lt.mpr (hL l hl).1)
  have off : ∀ b, b ∉ L.map (·.1) ∧ b ≠ B → upd (putF H L) B (.lst (bs.map V.ref)) b = H b := fun b h => by rw [upd_ne h.2, putF_off L H h.1]
  have kp : ∀ b u, H b = some u → upd (putF H L) B (.lst (bs.map V.ref)) b = some u := fun b u q => by rw [off b (trk b u q)]; exact q
  refine I.call' (ch := []) rfl ⟨fun b o q _ _ _ => keep b o q, fun b o q _ _ _ => ⟨o.slots, keep b o q⟩, fun b o q n _ => by rw [off b (low b o q)]; exact n, fun b o q _ => ⟨o, keep b o q⟩, fun b xs q => kp b _ q, fun b o u q => kp b _ q, fun b ps q => ⟨#[], by rw [kp b _ q]; simp⟩⟩ (fun b u q => ?_) I.bare (fun _ z => nomatch z)
  by_cases hb : b ∈ L.map (·.1)
  · obtain ⟨l, hl, rfl⟩ := List.mem_map.mp hb
    obtain ⟨h1, h2, h3, h4, h5⟩ := hL l hl
    rw [upd_ne h2, putF_at L H l nd hl] at q
    cases q
    exact ⟨h3, h5⟩
  · by_cases hb2 : b = B
    · subst hb2
      rw [upd_same] at q
      cases q
      exact ⟨by rw [List.length_map]; exact hz, _, e, LiI.vals_refs bs, eB⟩
    · rw [off b ⟨hb, hb2⟩] at q
      exact (I.hok b u q).stay (fun d v _ y => keep d v y) (fun d y => kp d _ y) fun d xs y => kp d _ y
section
variable {X : Cx}
theorem pe_sortedItems {e : Expr} {te : TE} {p apos cpos pos : Pos} (hc : X.calm = true) (he : PE X e te) (hg : Gl X "sorted") (hm : X.mg "sorted" = none) (hv : bootBuiltins "sorted" = some (.builtin "sorted")) (hbase : attributeBase e "items" X.env (eval e X.env) = eval e X.env := by rfl) (hline : (apos.endLine == cpos.line) = true := by rfl)
    (hs : starEach [.Call (.Attribute e "items" apos) [] [] cpos] X.env = (false, eval (.Call (.Attribute e "items" apos) [] [] cpos) X.env) :: starEach [] X.env := by rfl) (hpl : (backTo pos (starEach [] X.env)).any (·.1) = false := by rfl) :
    PE X (.Call (.Name "sorted" p) [.Call (.Attribute e "items" apos) [] [] cpos] [] pos) (tSortedItems te) := by
  refine ⟨fun pins s σ H Q I hq => ?_⟩
  refine wpAny_Call_Name_kw (ld_blt I hg hm hv ?_)
  refine PyProof.Rows.callWith_builtin1 ?_ hs hpl
  rw [hs]
  show wpAny _ _ (spliced ((false, eval (.Call (.Attribute e "items" apos) [] [] cpos) X.env) :: backTo pos (starEach [] X.env))) _ _ s
  refine Calls.spliced_cons ?_
  refine wpAny_Call_method (T := "dict") (id := "dict.items") hbase rfl hline F.plainAttrs_dict F.slot_dict_items F.type_dict_items (thn (he.run pins s σ H _ I hq) fun u s1 ⟨x, H1, I1, rx, d, ps, ex, hd, q⟩ => ?_)
  subst ex
  obtain rfl : u = Value.ref d := rx
  obtain ⟨hz, hs0, vs, kv, hdo⟩ := I1.hok d _ hd
  obtain ⟨ep, hat⟩ := hdo.dictAt
  have lk : (ps.map pairV).length = vs.length := Paired.length kv
  rw [List.length_map] at lk hz
  have I2 : Inv X pins σ H1 { s1 with heap := s1.heap.push { cls := .type "dict_items", data := .fields #[.ref d] } } := I1.kept (t' := s1.toks) fun b ob q => Heap.get?_push_of_some _ q
  refine ⟨hdo.typeIs, hdo.mapOf.noDict, ?_⟩
  show wpAny _ _ (callWith cpos (.builtin "dict.items") [.ref d] [] []) _ X.xe s1
  refine method_meetsIn F.slot_dict_items F.entry_dict_items rfl (PySem.evalArgs_none ⟨rfl, hdo.typeIs, F.args_dict_items_1 _, _, meets_dict_items (mixKind X.prog X.w) d hs0, ⟨vs, hdo⟩, ?_⟩)
  refine Calls.spliced_nil ?_
  refine Calls.call_function_entry kind_sorted plain_sorted entry_sorted (args_sorted1 _) ?_
  unfold Builtin.«sorted»
  refine wpAny_bind (m := checkCount "sorted" 1 1 _) (wpAny_pure ?_)
  refine wpAny_bind (PySem.W.kdx_collect (A := X.A.in1) (knd := mixKind X.prog X.w) (kvs := vs) (ep := ep) (I1.ok.hd hc) ⟨_, Heap.get?_push_size _ rfl, rfl, rfl⟩ (hat.push _) (by omega) fun h' tk as hk hl hG => ?_)
  -- the pairs as they stand
  have nd : as.Nodup := List.Pairwise.imp (fun {a b} (h : a < b) => Nat.ne_of_lt h) hG.rise
  have hat2 : ∀ (j : Nat) (a : Addr) (q : Int × Int), as[j]? = some a → ps[j]? = some q → ∃ t t', h'.get? a = some { cls := .type "tuple", data := .seq #[.int q.1 t, .int q.2 t'] } := fun j a q e1 e2 => by
    obtain ⟨key, k, x, f1, f2, f3⟩ := hG.pairs j a e1
    obtain ⟨u, g1, g2⟩ := kv_get kv (i := j) (k := Sum.inl q.1) (v := V.int q.2) (by rw [List.getElem?_map, e2]; rfl)
    rw [f1] at g1
    cases g1
    obtain ⟨t, rfl⟩ := Value.isInt_shape (k := q.1) (v := key) (show keyIs (Sum.inl q.1) key = true from f2)
    obtain ⟨t', rfl⟩ := g2
    exact ⟨t, t', f3⟩
  have lps : as.length = ps.length := by rw [hl, lk]
  refine wpAny_bind (wpAny_newList ?_ (by rw [List.length_map, hl]; omega))
  generalize ekk : (fun v : Value => (((as.zip ps).find? fun z => decide (Value.ref z.1 = v)).map (·.2)).getD ((0, 0) : Int × Int)) = kk
  have hkk : ∀ (j : Nat) (a : Addr) (q : Int × Int), as[j]? = some a → ps[j]? = some q → kk (.ref a) = q := fun j a q e1 e2 => by
    rw [← ekk]
    show (((as.zip ps).find? fun z => decide (Value.ref z.1 = Value.ref a)).map (·.2)).getD ((0, 0) : Int × Int) = q
    rw [find_zip nd e1 e2]
    rfl
  have hpair : ∀ v ∈ as.map Value.ref, Srt.IsPair h' v (kk v).1 (kk v).2 := fun v hv => by
    obtain ⟨a, ha, rfl⟩ := List.mem_map.mp hv
    obtain ⟨j, hj, ej⟩ := List.getElem_of_mem ha
    have e1 : as[j]? = some a := by rw [List.getElem?_eq_getElem hj, ej]
    have e2 : ps[j]? = some ps[j] := List.getElem?_eq_getElem (by omega)
    obtain ⟨t, t', e3⟩ := hat2 j a _ e1 e2
    rw [hkk j a _ e1 e2]
    exact ⟨a, _, t, t', _, rfl, e3, rfl, rfl⟩
  have hoL : (h'.push (seqObj "list" (as.map Value.ref).toArray 0)).get? h'.objs.size = some (seqObj "list" (as.map Value.ref).toArray 0) := Heap.get?_push_size _ rfl
  refine wpAny_bind (wpAny_holding (wpAny_call_entry slot_list_sort ⟨_, hoL, rfl⟩ entry_list_sort (SrtO.list_sort_ord (SrtO.swo_lex kk) hoL (by rw [List.length_map, hl]; omega) (fun h2 => ?_) fun out h1 h2 => ⟨_, rfl, ?_⟩) (args_list_sort _)))
  · refine SrtO.pairs_sortableO (s := { s1 with heap := h'.push (seqObj "list" (as.map Value.ref).toArray 0), toks := tk }) (by omega) (fun v hv => (hpair v hv).keeps fun b o e _ => Heap.get?_push_of_some _ e) fun o e => ?_
    rw [hoL] at e
    cases e
    exact fun c => absurd (Value.type.inj c) (by decide)
  · obtain ⟨ep2, he2⟩ := sortedHeap_at (vs := as.map Value.ref) (out := out.toArray) hoL
    have refs : ∀ v ∈ out, ∃ a, a ∈ as ∧ v = Value.ref a := fun v hv => by
      obtain ⟨a, ha, e⟩ := List.mem_map.mp (h2.perm.mem_iff.mp hv)
      exact ⟨a, ha, e.symm⟩
    have eo : ∀ l : List Value, (∀ v ∈ l, ∃ a, a ∈ as ∧ v = Value.ref a) → ∃ bs : List Addr, l = bs.map Value.ref ∧ ∀ b ∈ bs, b ∈ as := fun l => by
      induction l with
      | nil => exact fun _ => ⟨[], rfl, fun _ h => nomatch h⟩
      | cons v l ih =>
        intro h
        obtain ⟨a, ha, rfl⟩ := h v List.mem_cons_self
        obtain ⟨bs, rfl, k⟩ := ih fun v hv => h v (List.mem_cons_of_mem _ hv)
        exact ⟨a :: bs, rfl, fun b hb => (List.mem_cons.mp hb).elim (fun e => e ▸ ha) (k b)⟩
    obtain ⟨bs, rfl, hbs⟩ := eo out refs
    generalize eobj : (fun a : Addr => (h'.get? a).getD ({ cls := .type "tuple", data := .seq #[] } : Obj)) = ob
    generalize eL : ((as.zip ps).map fun z => (z.1, ob z.1, [V.int z.2.1, V.int z.2.2])) = L
    have eL1 : L.map (·.1) = as := by
      rw [← eL, List.map_map]
      show (as.zip ps).map (fun z => z.1) = as
      exact List.map_fst_zip (by omega)
    have hkeep : ∀ b o, (s1.heap.push { cls := .type "dict_items", data := .fields #[.ref d] }).get? b = some o → (sortedHeap (h'.push (seqObj "list" (as.map Value.ref).toArray 0)) h'.objs.size (as.map Value.ref) (bs.map Value.ref).toArray).get? b = some o := fun b o q => by
      have q2 := hk b o q
      have hlt := Heap.lt_size q2
      rw [sortedHeap_old (Nat.ne_of_lt hlt) (by rw [size_push']; exact Nat.lt_succ_of_lt hlt)]
      exact Heap.get?_push_of_some _ q2
    have memL : ∀ l ∈ L, ∃ (j : Nat) (q : Int × Int), as[j]? = some l.1 ∧ ps[j]? = some q ∧ l.2.2 = [V.int q.1, V.int q.2] ∧ l.2.1 = ob l.1 := fun l hl => by
      rw [← eL] at hl
      obtain ⟨z, hz, rfl⟩ := List.mem_map.mp hl
      obtain ⟨j, hj, ej⟩ := List.getElem_of_mem hz
      rw [List.getElem_zip] at ej
      rw [List.length_zip] at hj
      refine ⟨j, z.2, ?_, ?_, rfl, rfl⟩
      · rw [List.getElem?_eq_getElem (by omega), ← ej]
      · rw [List.getElem?_eq_getElem (by omega), ← ej]
    have lowA : ∀ a ∈ as, (s1.heap.push { cls := .type "dict_items", data := .fields #[.ref d] }).objs.size ≤ a ∧ a < h'.objs.size := fun a ha => by
      refine ⟨Nat.le_of_lt (hG.above a ha), ?_⟩
      obtain ⟨j, hj, ej⟩ := List.getElem_of_mem ha
      obtain ⟨t, t', e3⟩ := hat2 j a _ (by rw [List.getElem?_eq_getElem hj, ej]) (List.getElem?_eq_getElem (show j < ps.length by omega))
      exact Heap.lt_size e3
    have objL : ∀ l ∈ L, ∃ (q : Int × Int) (t t' : Tok), l.2.2 = [V.int q.1, V.int q.2] ∧ l.2.1 = { cls := .type "tuple", data := .seq #[.int q.1 t, .int q.2 t'] } ∧ h'.get? l.1 = some l.2.1 ∧ l.1 ∈ as ∧ kk (.ref l.1) = q := fun l hl => by
      obtain ⟨j, q, e1, e2, e3, e4⟩ := memL l hl
      obtain ⟨t, t', e5⟩ := hat2 j _ q e1 e2
      have e6 : l.2.1 = { cls := .type "tuple", data := .seq #[.int q.1 t, .int q.2 t'] } := by
        rw [e4, ← eobj]
        show (h'.get? l.1).getD _ = _
        rw [e5]
        rfl
      exact ⟨q, t, t', e3, e6, by rw [e6]; exact e5, List.mem_of_getElem? e1, hkk j _ q e1 e2⟩
    have hBs : (s1.heap.push { cls := .type "dict_items", data := .fields #[.ref d] }).objs.size ≤ h'.objs.size := by
      rw [size_push']
      exact Heap.lt_size (hk s1.heap.objs.size _ (Heap.get?_push_size _ rfl))
    have pbs : bs.Perm as := by
      have p := h2.perm.map backV
      have e1 : ∀ l : List Addr, (l.map Value.ref).map backV = l.map V.ref := fun l => by rw [List.map_map]; rfl
      rw [e1, e1] at p
      have p2 := p.map (fun v : V => match v with | .ref a => a | _ => 0)
      have e2 : ∀ l : List Addr, (l.map V.ref).map (fun v : V => match v with | .ref a => a | _ => 0) = l := fun l => by rw [List.map_map]; exact List.map_id' l
      rw [e2, e2] at p2
      exact p2
    have eps : as.map (fun b => kk (.ref b)) = ps := by
      apply List.ext_getElem?
      intro j
      rw [List.getElem?_map]
      by_cases hj : j < as.length
      · rw [List.getElem?_eq_getElem hj, List.getElem?_eq_getElem (show j < ps.length by omega)]
        show some (kk (.ref as[j])) = _
        rw [hkk j _ _ (List.getElem?_eq_getElem hj) (List.getElem?_eq_getElem (show j < ps.length by omega))]
      · rw [List.getElem?_eq_none (by omega), List.getElem?_eq_none (by omega)]
        rfl
    have lbs : bs.length ≤ sizeLine := by
      rw [pbs.length_eq, lps]
      exact hz
    have I3 := items_inv (tk := tk) (L := L) (B := h'.objs.size) (bs := bs) (e := ep2) I2 hkeep (fun l hl => ?_) (by rw [eL1]; exact nd) hBs he2 lbs
    · refine wpAny_pure ⟨_, rfl, .ref h'.objs.size, _, I3, rfl, q L _ bs (bs.map fun b => kk (.ref b)) (by rw [eL1]; exact nd) (fun l hl => ?_) ?_ (I2.hok.fresh hBs) ?_ ?_ ?_⟩
      · obtain ⟨q', t, t', e1, e2, e3, e4, _⟩ := objL l hl
        exact ⟨I2.hok.fresh (lowA _ e4).1, by rw [e2], q', e1⟩
      · rw [eL1]
        exact fun z => absurd (lowA _ z).2 (Nat.lt_irrefl _)
      · have p := pbs.map (fun b => kk (.ref b))
        rw [eps] at p
        exact p
      · have := h1
        rw [SrtO.Srtd, List.pairwise_map] at this
        rw [List.pairwise_map]
        exact this
      · have go : ∀ l : List Addr, (∀ b ∈ l, b ∈ as) → Paired (fun b q => ∃ o, (b, o, [V.int q.1, V.int q.2]) ∈ L) l (l.map fun b => kk (.ref b)) := fun l => by
          induction l with
          | nil => exact fun _ => .nil
          | cons b l ih =>
            intro h
            refine .cons ?_ (ih fun c hc => h c (List.mem_cons_of_mem _ hc))
            have hb : b ∈ L.map (·.1) := by rw [eL1]; exact h b List.mem_cons_self
            obtain ⟨m, hm1, hm2⟩ := List.mem_map.mp hb
            obtain ⟨q', t, t', e1, e2, e3, e4, e5⟩ := objL m hm1
            subst hm2
            refine ⟨m.2.1, ?_⟩
            show (m.1, m.2.1, [V.int (kk (Value.ref m.1)).1, V.int (kk (Value.ref m.1)).2]) ∈ L
            rw [e5, ← e1]
            exact hm1
        exact go bs hbs
    · obtain ⟨q', t, t', e1, e2, e3, e4, e5⟩ := objL l hl
      obtain ⟨a1, a2⟩ := lowA _ e4
      have e6 : (sortedHeap (h'.push (seqObj "list" (as.map Value.ref).toArray 0)) h'.objs.size (as.map Value.ref) (bs.map Value.ref).toArray).get? l.1 = some l.2.1 := by
        rw [sortedHeap_old (Nat.ne_of_lt a2) (by rw [size_push']; exact Nat.lt_succ_of_lt a2)]
        exact Heap.get?_push_of_some _ e3
      refine ⟨a1, Nat.ne_of_lt a2, e6, by rw [e2], ?_⟩
      rw [e1]
      exact ⟨by show 2 ≤ sizeLine; decide, [.int q'.1 t, .int q'.2 t'], .cons ⟨_, rfl⟩ (.cons ⟨_, rfl⟩ .nil), ⟨_, e6, by rw [e2], _, by rw [e2]⟩⟩
end
end Kn
set_option Elab.async false
set_option linter.all false
set_option maxRecDepth 100000
set_option maxHeartbeats 4000000
namespace Kn
open PySem PySem.Spec L2
open PyProof.Rows hiding St
/-! ### dicts with int keys -/
def putI (l : List (Int × PyData)) (k : Int) (d : PyData) : List (Int × PyData) := if (l.any fun p => decide (p.1 = k)) = true then l.map (fun p => if p.1 = k then (p.1, d) else p) else l ++ [(k, d)]
def valI (l : List (Int × PyData)) (k : Int) : Option PyData := (l.find? fun p => decide (p.1 = k)).map (·.2)
def mergeI (l more : List (Int × PyData)) : List (Int × PyData) := more.foldl (fun acc p => putI acc p.1 p.2) l
theorem dec_inl {a b : Int} : decide ((Sum.inl a : Key) = Sum.inl b) = decide (a = b) := by
  by_cases h : a = b
  · subst h
    simp
  · rw [decide_eq_false h, decide_eq_false fun z => h (Sum.inl.inj z)]
theorem KvA.any {S : Hp} {k : Int} : ∀ {vs : List (Key × V)} {l : List (Int × PyData)}, KvA S vs l → (vs.any fun p => decide (p.1 = Sum.inl k)) = l.any fun p => decide (p.1 = k)
  | _, _, .nil => rfl
  | _, _, .cons h r => by
    rw [List.any_cons, List.any_cons, KvA.any r, h.1, dec_inl]
theorem KvA.len {S : Hp} {vs : List (Key × V)} {l : List (Int × PyData)} (r : KvA S vs l) : vs.length = l.length := Paired.length r
theorem KvA.app {S : Hp} {v : V} {k : Int} {d : PyData} (h : Dq S v d) : ∀ {vs : List (Key × V)} {l : List (Int × PyData)}, KvA S vs l → KvA S (vs ++ [(Sum.inl k, v)]) (l ++ [(k, d)])
  | _, _, .nil => .cons ⟨rfl, h⟩ .nil
  | _, _, .cons a r => .cons a (KvA.app h r)
theorem KvA.repl {S : Hp} {v : V} {k : Int} {d : PyData} (h : Dq S v d) : ∀ {vs : List (Key × V)} {l : List (Int × PyData)}, KvA S vs l →
    KvA S (vs.map fun kv => if kv.1 = Sum.inl k then (kv.1, v) else kv) (l.map fun p => if p.1 = k then (p.1, d) else p)
  | _, _, .nil => .nil
  | _, _, .cons (a := a) (b := b) q r => by
    refine .cons ?_ (KvA.repl h r)
    show (if a.1 = Sum.inl k then (a.1, v) else a).1 = Sum.inl (if b.1 = k then (b.1, d) else b).1 ∧ Dq S (if a.1 = Sum.inl k then (a.1, v) else a).2 (if b.1 = k then (b.1, d) else b).2
    by_cases e : b.1 = k
    · rw [if_pos e, if_pos (by rw [q.1, e])]
      exact ⟨q.1, h⟩
    · rw [if_neg e, if_neg (by rw [q.1]; exact fun z => e (Sum.inl.inj z))]
      exact q
theorem KvA.put {S : Hp} {v : V} {k : Int} {d : PyData} {vs : List (Key × V)} {l : List (Int × PyData)} (r : KvA S vs l) (h : Dq S v d) : KvA S (putK vs (Sum.inl k) v) (putI l k d) := by
  unfold putK putI
  rw [r.any]
  split
  · exact r.repl h
  · exact r.app h
theorem KvA.val {S : Hp} {k : Int} : ∀ {vs : List (Key × V)} {l : List (Int × PyData)}, KvA S vs l → (∃ v d, valV vs (Sum.inl k) = some v ∧ valI l k = some d ∧ Dq S v d) ∨ (valV vs (Sum.inl k) = none ∧ valI l k = none)
  | _, _, .nil => .inr ⟨rfl, rfl⟩
  | _, _, .cons (a := a) (b := b) q r => by
    by_cases e : b.1 = k
    · refine .inl ⟨a.2, b.2, ?_, ?_, q.2⟩
      · unfold valV
        rw [List.find?_cons, decide_eq_true (show a.1 = Sum.inl k by rw [q.1, e])]
        rfl
      · unfold valI
        rw [List.find?_cons, decide_eq_true e]
        rfl
    · have ih := KvA.val (k := k) r
      unfold valV valI at ih ⊢
      rw [List.find?_cons, List.find?_cons, decide_eq_false (show ¬ a.1 = Sum.inl k by rw [q.1]; exact fun z => e (Sum.inl.inj z)), decide_eq_false e]
      exact ih
theorem KvA.merge {S : Hp} : ∀ {more : List (Key × V)} {m : List (Int × PyData)} {vs : List (Key × V)} {l : List (Int × PyData)}, KvA S more m → KvA S vs l → KvA S (mergeK vs more) (mergeI l m)
  | _, _, _, _, .nil, r => r
  | _, _, vs, l, .cons (a := a) (b := b) q r', r => by
    show KvA S (mergeK (putK vs a.1 a.2) _) (mergeI (putI l b.1 b.2) _)
    rw [q.1]
    exact KvA.merge r' (r.put q.2)
/-- pairs read off data -/
def asPairs : List PyData → Option (List (Int × PyData))
  | [] => some []
  | .tuple [.int k, d] :: r => (asPairs r).map ((k, d) :: ·)
  | _ :: _ => none
theorem pairs_read {S H : Hp} {K : PySem.W.Frag} (hs : Same S H) : ∀ {ds : List PyData} {vs : List V} {l : List (Int × PyData)}, DqA S vs ds → asPairs ds = some l →
    ∃ (ps : List Addr) (kvs : List (Key × V)), vs = ps.map V.ref ∧ Paired (fun p kv => SqT K H p [kV kv.1, kv.2]) ps kvs ∧ KvA S kvs l
  | [], _, l, .nil, e => by
    cases e
    exact ⟨[], [], rfl, .nil, .nil⟩
  | d :: ds, _, l, .cons h r, e => by
    unfold asPairs at e
    split at e
    · cases ‹_ :: _ = []›
    · rename_i k x r' e2
      cases e2
      obtain ⟨l', e3, e4⟩ := Option.map_eq_some_iff.mp e
      subst e4
      obtain ⟨ps, kvs, rfl, h2, h3⟩ := pairs_read (K := K) hs r e3
      cases h with
      | tup hh hn hx =>
        rename_i a o xs
        cases hx with
        | cons h5 h6 =>
          cases h5
          cases h6 with
          | cons h7 h8 =>
            cases h8
            exact ⟨a :: ps, (Sum.inl k, _) :: kvs, rfl, .cons (sqtF (hs _ _ hh)) h2, .cons ⟨rfl, h7⟩ h3⟩
    · cases e
section
variable {X : Cx} {B : Bs} {a b c e tg : Expr} {es rest : List Expr} {ta tb tc te : TE} {ga gb gc ge : Den B.R} {pos p : Pos} {k : Nat} {t : TA} {g : DenA B.R}
def fDict : List Val → Option Val
  | [a] => (a.lst.bind asPairs).map fun l => .fd (mergeI [] l)
  | _ => none
def rDictP (K : PySem.W.Frag) : List V → Hp → VK → Prop := fun xs H Q => ∃ (a : Addr) (ps : List Addr) (kvs : List (Key × V)), xs = [.ref a] ∧ SqL K H a (ps.map V.ref) ∧ Paired (fun p kv => SqT K H p [kV kv.1, kv.2]) ps kvs ∧
    ∀ p, H p = none → Q (.ref p) (upd H p (.dK (mergeK [] kvs)))
theorem s_dict {K : PySem.W.Frag} : CallS B (rDictP K) fDict := by
  intro S H σ τ vs as c Q R ka e q
  cases ka with
  | nil => cases e
  | cons a r =>
    cases r with
    | cons _ _ => cases e
    | nil =>
      obtain ⟨l, e1, e2⟩ := Option.map_eq_some_iff.mp (show (Option.bind _ _).map _ = _ from e)
      subst e2
      obtain ⟨ds, e3, e4⟩ := Option.bind_eq_some_iff.mp e1
      obtain ⟨p, ws, rfl, h, _, kk⟩ := VOk.lst R a e3
      obtain ⟨ps, kvs, rfl, h1, h2⟩ := pairs_read (K := K) R.sub kk e4
      refine ⟨p, ps, kvs, rfl, SqL.of h, h1, fun t ht => ?_⟩
      obtain ⟨g2, r2, k2, f2⟩ := lay_dict R ht (KvA.merge (S := S) (vs := []) (l := []) h2 .nil)
      exact q _ _ _ g2 r2 k2 f2
/-- d[k] += e of ints, d an own dict -/
def dDAug {R : Rsc} (i : Nat) (g h : Den R) : DenS R := fun τ => match τ.sl[i]? with
  | some (.od _) => (g τ).bind fun p => match p.1.int, p.2.sl[i]? with
    | some k, some (.od l) => match valI l k with
      | some (.int x) => (h p.2).bind fun q => match q.1.int, q.2.sl[i]? with
        | some y, some (.od l2) => if l2.length < sizeLine then .ok (.nx (q.2.put i (.od (putI l2 k (.int (x + y)))))) else .bad
        | _, _ => .bad
      | _ => .bad
    | _, _ => .bad
  | _ => .bad
theorem ds_daug (hu : X.A.units + 1 < cLine) (i : Nat) {x : Str} {p2 : Pos} (hb : DE B X b tb gb) (he : DE B X e te ge) (hN : X.N[i]? = some x := by rfl) (hv : Vis X.env.scope x := by first | exact Or.inl rfl | exact Or.inr (Or.inl rfl) | exact Or.inr (Or.inr rfl))
    (ha : ∀ ov iv new, augStore b ov iv new = (do holding [new, ov, iv] (setItem ov iv new); release [new, ov, iv] []; pure .next) := by exact fun _ _ _ => rfl) (hd : (x == ("__debug__" : Str)) = false := by decide) (hcd : (x == ("__classdict__" : Str)) = false := by decide) :
    DS B X (.AugAssign (.Subscript (.Name x p) b p2) .Add e pos) (sDAug (tVar i) tb te rAdd) (dDAug i gb ge) := by
  refine ⟨ps_daug hu (pe_var hN hv hd hcd) hb.pe he.pe in_add ha, fun S H σ τ D R q => ?_⟩
  unfold dDAug at q
  split at q
  · rename_i l0 e0
    obtain ⟨a', vs, ea, h1, k1, _⟩ := R.setOd e0
    refine ⟨.ref a', ea, hb.sd S H σ τ _ R (sat_e q fun val τ1 v S1 H1 _ G1 R1 o1 _ q => ?_)⟩
    simp only at q
    cases en : val.int with
    | none => simp only [en] at q; exact q.elim
    | some k =>
      cases e1 : τ1.sl[i]? with
      | none => simp only [en, e1] at q; exact q.elim
      | some s1 =>
        cases s1 with
        | od l =>
          simp only [en, e1] at q
          obtain ⟨rfl, _⟩ := VOk.int o1 en
          obtain ⟨a2, vs1, ea1, h2, k2, _⟩ := R1.setOd e1
          rw [ea] at ea1
          cases ea1
          rcases KvA.val (k := k) k2 with ⟨v0, d0, w1, w2, w3⟩ | ⟨_, w2⟩
          · rw [w2] at q
            cases d0 with
            | int x =>
              cases w3
              refine ⟨a', .int x, rfl, ?_, he.sd S1 H1 σ τ1 _ R1 (sat_e q fun val2 τ2 w S2 H2 _ G2 R2 o2 _ q => ?_)⟩
              · rw [← w1]
                exact DGet.k (k := Sum.inl k) h2
              · simp only at q
                cases en2 : val2.int with
                | none => simp only [en2] at q; exact q.elim
                | some y =>
                  cases e2 : τ2.sl[i]? with
                  | none => simp only [en2, e2] at q; exact q.elim
                  | some s2 =>
                    cases s2 with
                    | od l2 =>
                      simp only [en2, e2] at q
                      obtain ⟨rfl, _⟩ := VOk.int o2 en2
                      obtain ⟨a3, vs2, ea2, h3, k3, up⟩ := R2.setOd e2
                      rw [ea] at ea2
                      cases ea2
                      by_cases hz : l2.length < sizeLine
                      · rw [if_pos hz] at q
                        exact ⟨x, y, rfl, rfl, _, DPut.k (k := Sum.inl k) h3 (by rw [k3.len]; exact hz), q S2 _ σ (Same.refl _) (up _ _ (k3.put (.int _)))⟩
                      · rw [if_neg hz] at q
                        exact q.elim
                    | _ => simp only [en2, e2] at q; exact q.elim
            | _ => exact q.elim
          · rw [w2] at q
            exact q.elim
        | _ => simp only [en, e1] at q; exact q.elim
  · exact q.elim
/-! ### sorted(d.items()) -/
def asIP : List (Int × PyData) → Option (List (Int × Int))
  | [] => some []
  | (k, .int v) :: r => (asIP r).map ((k, v) :: ·)
  | _ :: _ => none
theorem ip_read {S : Hp} : ∀ {vs : List (Key × V)} {l : List (Int × PyData)} {ps : List (Int × Int)}, KvA S vs l → asIP l = some ps → vs = ps.map pairV
  | _, _, ps, .nil, e => by
    cases e
    rfl
  | _, _, ps, .cons (a := a) (b := b) q r, e => by
    obtain ⟨k, d⟩ := b
    obtain ⟨k', v⟩ := a
    obtain ⟨q1, q2⟩ := q
    cases d with
    | int x =>
      obtain ⟨ps', e1, e2⟩ := Option.map_eq_some_iff.mp (show (asIP _).map _ = some ps from e)
      subst e2
      cases q2
      have q1 : k' = Sum.inl k := q1
      subst q1
      rw [ip_read r e1]
      rfl
    | _ => cases e
def pins (x : Int × Int) : List (Int × Int) → List (Int × Int)
  | [] => [x]
  | y :: r => if SrtO.lexB y x = true then y :: pins x r else x :: y :: r
def psort : List (Int × Int) → List (Int × Int)
  | [] => []
  | x :: r => pins x (psort r)
theorem pins_perm (x : Int × Int) : ∀ l, (pins x l).Perm (x :: l)
  | [] => .refl _
  | y :: r => by
    unfold pins
    split
    · exact ((pins_perm x r).cons y).trans (.swap x y r)
    · exact .refl _
theorem psort_perm : ∀ l, (psort l).Perm l
  | [] => .refl _
  | x :: r => (pins_perm x (psort r)).trans ((psort_perm r).cons x)
theorem lexB_tr {x y z : Int × Int} (h1 : SrtO.lexB y x = false) (h2 : SrtO.lexB z y = false) : SrtO.lexB z x = false := by
  have a := SrtO.lexB_no.mp h1
  have b := SrtO.lexB_no.mp h2
  exact SrtO.lexB_no.mpr (by omega)
theorem pins_sorted (x : Int × Int) : ∀ l : List (Int × Int), l.Pairwise (fun x y => SrtO.lexB y x = false) → (pins x l).Pairwise (fun x y => SrtO.lexB y x = false)
  | [], _ => by simp [pins]
  | y :: r, h => by
    unfold pins
    rw [List.pairwise_cons] at h
    split
    · rename_i hxy
      refine List.pairwise_cons.mpr ⟨fun z hz => ?_, pins_sorted x r h.2⟩
      rcases List.mem_cons.mp ((pins_perm x r).mem_iff.mp hz) with rfl | hz
      · have a := SrtO.lexB_iff.mp hxy
        exact SrtO.lexB_no.mpr (by omega)
      · exact h.1 z hz
    · rename_i hxy
      have hxy : SrtO.lexB y x = false := Bool.eq_false_iff.mpr hxy
      refine List.pairwise_cons.mpr ⟨fun z hz => ?_, List.pairwise_cons.mpr h⟩
      rcases List.mem_cons.mp hz with rfl | hz
      · exact hxy
      · exact lexB_tr hxy (h.1 z hz)
theorem psort_sorted : ∀ l, (psort l).Pairwise (fun x y => SrtO.lexB y x = false)
  | [] => .nil
  | x :: r => pins_sorted x _ (psort_sorted r)
theorem psorted_one : ∀ {l m : List (Int × Int)}, l.Perm m → l.Pairwise (fun x y => SrtO.lexB y x = false) → m.Pairwise (fun x y => SrtO.lexB y x = false) → l = m
  | [], m, p, _, _ => by
    have := p.length_eq
    cases m with
    | nil => rfl
    | cons _ _ => simp at this
  | x :: l, [], p, _, _ => by
    have := p.length_eq
    simp at this
  | x :: l, y :: m, p, h, h' => by
    rw [List.pairwise_cons] at h h'
    have e : x = y := by
      have m1 : x ∈ y :: m := p.mem_iff.mp List.mem_cons_self
      have m2 : y ∈ x :: l := p.mem_iff.mpr List.mem_cons_self
      rcases List.mem_cons.mp m1 with e | m1
      · exact e
      · rcases List.mem_cons.mp m2 with e | m2
        · exact e.symm
        · have a := SrtO.lexB_no.mp (h.1 y m2)
          have b := SrtO.lexB_no.mp (h'.1 x m1)
          exact Prod.ext (by omega) (by omega)
    subst e
    rw [psorted_one (List.Perm.cons_inv p) h.2 h'.2]
abbrev prD (l : List (Int × Int)) : List PyData := l.map fun p => .tuple [.int p.1, .int p.2]
def Val.dic : Val → Option (List (Int × PyData))
  | .fd l => some l
  | .bd l => some l
  | _ => none
def dSortedItems {R : Rsc} (g : Den R) : Den R := fun τ => (g τ).bind fun p => match p.1.dic.bind asIP with
  | some ps => .ok (.fr (prD (psort ps)), p.2)
  | none => .bad
theorem lay_tups {σ : St} {τ : Tau B.R} : ∀ (L : List (Addr × Obj × List V)) {S H : Hp}, Rel B S H σ τ → (L.map (·.1)).Nodup → (∀ l ∈ L, H l.1 = none ∧ l.2.1.dict = none) → (∀ l ∈ L, ∃ ns : List Int, l.2.2 = ns.map V.int) →
    Gro B σ S H τ.sl (putF S L) (putF H L) τ.sl ∧ Rel B (putF S L) (putF H L) σ τ
  | [], S, H, R, _, _, _ => ⟨.refl, R⟩
  | l :: L, S, H, R, nd, hl, hn => by
    rw [List.map_cons, List.nodup_cons] at nd
    obtain ⟨h1, h2⟩ := hl l List.mem_cons_self
    obtain ⟨ns, e⟩ := hn l List.mem_cons_self
    have k : DqA S l.2.2 (nsD ns) := by
      rw [e]
      exact DqA.ints_ S ns
    obtain ⟨g, r, _⟩ := lay_tup R h1 h2 k
    obtain ⟨g2, r2⟩ := lay_tups L r nd.2 (fun m hm => ⟨by
      rw [upd_ne (fun z => nd.1 (List.mem_map.mpr ⟨m, hm, z⟩))]
      exact (hl m (List.mem_cons_of_mem _ hm)).1, (hl m (List.mem_cons_of_mem _ hm)).2⟩) fun m hm => hn m (List.mem_cons_of_mem _ hm)
    exact ⟨g.trans g2, r2⟩
theorem de_sortedItems {apos cpos : Pos} (hc : X.calm = true) (he : DE B X e te ge) (hg : Gl X "sorted") (hm : X.mg "sorted" = none) (hv : bootBuiltins "sorted" = some (.builtin "sorted")) (hbase : attributeBase e "items" X.env (eval e X.env) = eval e X.env := by rfl) (hline : (apos.endLine == cpos.line) = true := by rfl)
    (hs : starEach [.Call (.Attribute e "items" apos) [] [] cpos] X.env = (false, eval (.Call (.Attribute e "items" apos) [] [] cpos) X.env) :: starEach [] X.env := by rfl) (hpl : (backTo pos (starEach [] X.env)).any (·.1) = false := by rfl) :
    DE B X (.Call (.Name "sorted" p) [.Call (.Attribute e "items" apos) [] [] cpos] [] pos) (tSortedItems te) (dSortedItems ge) := by
  refine ⟨pe_sortedItems hc he.pe hg hm hv hbase hline hs hpl, fun S H σ τ Q R q => he.sd S H σ τ _ R (Sat.step (f := fun p => match p.1.dic.bind asIP with
    | some ps => .ok (Val.fr (prD (psort ps)), p.2)
    | none => .bad) q fun x τ1 v S1 H1 _ G1 R1 o1 _ h1 => ?_)⟩
  cases es : x.dic.bind asIP with
  | none => simp only [es] at h1; exact h1.elim
  | some ps =>
    simp only [es] at h1
    obtain ⟨l, e1, e2⟩ := Option.bind_eq_some_iff.mp es
    have hd : ∃ d vs, v = .ref d ∧ H1 d = some (.dK vs) ∧ KvA S1 vs l := by
      cases x with
      | fd l' =>
        cases e1
        obtain ⟨d, vs, h1, h2, _, _, _, _, h6⟩ := o1
        exact ⟨d, vs, h1, h2, h6⟩
      | bd l' =>
        cases e1
        obtain ⟨d, vs, h1, h2, _, h6⟩ := o1
        exact ⟨d, vs, h1, h2, h6⟩
      | _ => cases e1
    obtain ⟨d, vs, rfl, hH, kk⟩ := hd
    have ev := ip_read kk e2
    subst ev
    refine ⟨d, ps, rfl, hH, fun L pp bs qs nd hL hpL hp pm pw pb => ?_⟩
    have eqs : qs = psort ps := psorted_one (pm.trans (psort_perm ps).symm) pw (psort_sorted ps)
    subst eqs
    obtain ⟨g2, r2⟩ := lay_tups L R1 nd (fun l hl => ⟨(hL l hl).1, (hL l hl).2.1⟩) fun l hl => by
      obtain ⟨_, _, q', e⟩ := hL l hl
      exact ⟨[q'.1, q'.2], e⟩
    have hp2 : putF H1 L pp = none := by rw [putF_off L H1 hpL, hp]
    have kd : DqA (putF S1 L) (bs.map V.ref) (prD (psort ps)) := by
      have go : ∀ {bs : List Addr} {qs : List (Int × Int)}, Paired (fun b q => ∃ o, (b, o, [V.int q.1, V.int q.2]) ∈ L) bs qs → DqA (putF S1 L) (bs.map V.ref) (prD qs) := fun {bs qs} pb => by
        induction pb with
        | nil => exact .nil
        | cons h _ ih =>
          obtain ⟨o, ho⟩ := h
          exact .cons (.tup (putF_at L S1 _ nd ho) (hL _ ho).2.1 (.cons (.int _) (.cons (.int _) .nil))) ih
      exact go pb
    obtain ⟨g3, r3, k3, f3⟩ := lay_lst r2 hp2 kd
    exact h1 _ _ _ (g2.trans g3) r3 k3 (frN (R1.hnone hp).2.2.1 hp)
end
end Kn
set_option Elab.async false
set_option linter.all false
set_option maxRecDepth 100000
set_option maxHeartbeats 4000000
namespace Kn
open PySem PySem.Spec L2
open PyProof.Rows hiding St
/-! ### a bag of draws: [the draws, how many were taken] -/
abbrev Bag := List Int × Int
abbrev bagR (ab : Addr) : Rsc where
  Γ := Bag
  M := fun b => b = ab
  ok := fun γ S H => ∃ al, H ab = some (.lst [.ref al, .int γ.2]) ∧ S al = some (.lst (γ.1.map V.int))
  stab := fun γ S H S' H' hs hm ⟨al, h1, h2⟩ => ⟨al, by rw [hm ab rfl]; exact h1, hs _ _ h2⟩
  mem := fun γ S H b ⟨al, h1, h2⟩ e => by
    subst e
    rw [h1]
    exact fun z => nomatch z
/-! a def whose first argument is a thing of ours, handed through: what it is by an index -/
section
variable {ι : Type} {Rs : ι → Rsc} {ad : ι → Addr}
abbrev RFn (Rs : ι → Rsc) := (i : ι) → (Rs i).Γ → List PyData → Option (Res (Rs i).Γ)
def spR (Rs : ι → Rsc) (ad : ι → Addr) (F : RFn Rs) : Sp := fun vs H Q E => ∃ i, spG (Rs i) [.ref (ad i)] (F i) vs H Q E
structure CalR (Rs : ι → Rsc) (ad : ι → Addr) (P : Program) (w : World) (K : PySem.W.Frag) (mg : Str → Option Value) (base : Heap) (x : Str) (k : Nat) (F : RFn Rs) : Prop where
  ex : ∃ (f : Addr) (fd : FuncData) (ps : List Str), FnOk P w K mg base (L2N.CX P w) k f fd ps (spR Rs ad F) ∧ mg x = some (.ref f) ∧ PySem.W.keepIn K (.ref f) = true ∧ Binds K fd ps []
theorem CalR.of {P : Program} {w : World} {K : PySem.W.Frag} {mg : Str → Option Value} {base : Heap} {x : Str} {k : Nat} {F : RFn Rs} {f : Addr} {fd : FuncData} {ps : List Str} (h : FnOk P w K mg base (L2N.CX P w) (k + 1) f fd ps (spR Rs ad F)) (gm : mg x = some (.ref f)) (kp : PySem.W.keepIn K (.ref f) = true) (b : Binds K fd ps []) : CalR Rs ad P w K mg base x (k + 1) F := ⟨f, fd, ps, h, gm, kp, b⟩
def dCallR (Rs : ι → Rsc) (ad : ι → Addr) (i : ι) (F : RFn Rs) (g : DenA (Rs i)) : Den (Rs i) := fun τ => (g τ).bind fun p => match p.1 with
  | .rw v :: rest => if v = .ref (ad i) then match allData rest with
    | some ds => match F i p.2.γ ds with
      | some (.ok val γ') => if val.out = true then .ok (val, ⟨p.2.sl, γ'⟩) else .bad
      | _ => .bad
    | none => .bad
    else .bad
  | _ => .bad
variable {X : Cx} {i : ι} {S0 H0 : Hp} {E1 : XK} {e : Expr} {es : List Expr} {t : TA} {ga : DenA (Rs i)} {pos p : Pos} {k : Nat}
theorem snd_callR {F : RFn Rs} {E : XK} (ha : SndA ⟨Rs i, S0, H0, E1⟩ t ga) : SndE ⟨Rs i, S0, H0, E1⟩ (tCall (spR Rs ad F) [] E t) (dCallR Rs ad i F ga) := by
  refine fun S H σ τ Q R q => ha S H σ τ _ R (Sat.step (f := fun p => match p.1 with
    | .rw v :: rest => if v = .ref (ad i) then match allData rest with
      | some ds => match F i p.2.γ ds with
        | some (.ok val γ') => if val.out = true then .ok (val, ⟨p.2.sl, γ'⟩) else .bad
        | _ => .bad
      | none => .bad
      else .bad
    | _ => .bad) q fun x τ1 vs S1 H1 _ G1 R1 o1 _ h1 => ?_)
  split at h1
  · rename_i v rest e0
    simp only at e0
    subst e0
    have o1 : Paired (fun v val => VOk ⟨Rs i, S0, H0, E1⟩ S1 H1 σ τ1.sl v val) vs (.rw v :: rest) := o1
    cases o1 with
    | cons k0 kr =>
      rename_i v' ws _fr
      have k0 : v' = v := k0
      subst k0
      by_cases hv : v' = .ref (ad i)
      · rw [if_pos hv] at h1
        subst hv
        cases e : allData rest with
        | none => simp only [e] at h1; exact h1.elim
        | some ds =>
          simp only [e] at h1
          have ka := args_ok (RR := Rs i) (fun _ z => z) R1 kr e
          cases ef : F i τ1.γ ds with
          | none => simp only [ef] at h1; exact h1.elim
          | some r =>
            simp only [ef] at h1
            cases r with
            | ok val γ' =>
              refine ⟨i, ws, S1, τ1.γ, ds, .ok val γ', List.append_nil _, R1.sub, R1.mS, R1.res, ka, ef, ?_⟩
              simp only at h1
              by_cases ho : val.out = true
              · rw [if_pos ho] at h1
                intro v S' H' a k
                obtain ⟨kv, kf⟩ := k.v R1 (out_bo ho).1 (out_bo ho).2
                exact h1 v S' H' (Gro.grown R1 a) (R1.grown a) kv kf
              · rw [if_neg ho] at h1
                exact h1.elim
            | err C f u => exact h1.elim
      · rw [if_neg hv] at h1
        exact h1.elim
  · exact h1.elim
theorem de_calR {x : Str} {F : RFn Rs} (c : CalR Rs ad X.prog X.w X.K X.mg X.base x k F) (hr : Room k X.A) (hg : Gl X x) (ha : DA ⟨Rs i, S0, H0, E1⟩ X (e :: es) t ga)
    (hdb : (x == ("__debug__" : Str)) = false := by decide) (he : starEach (e :: es) X.env = (false, eval e X.env) :: starEach es X.env := by rfl) (hpl : (backTo pos (starEach es X.env)).any (·.1) = false := by rfl) :
    DE ⟨Rs i, S0, H0, E1⟩ X (.Call (.Name x p) (e :: es) [] pos) (tCall (spR Rs ad F) [] E0 t) (dCallR Rs ad i F ga) := by
  obtain ⟨f, fd, ps, h, gm, kp, b⟩ := c.ex
  exact ⟨pe_call h hr hg gm kp b .nil passN ha.pe hdb he hpl, snd_callR ha.sd⟩
end
section
variable {P : Program} {w : World} {K : PySem.W.Frag} {mg : Str → Option Value} {base : Heap} {ι : Type} {Rs : ι → Rsc} {ad : ι → Addr}
theorem fn_R {x qual : Str} {st : Stmt} {f : Addr} {fd : FuncData} {N ps : List Str} {k : Nat} (Fu : Fun K x qual st f fd) (Sc : FnScope N ps (defScope st)) {F : RFn Rs} (g : ∀ i, DenS (Rs i))
    (hlen : ∀ i γ ds r, F i γ ds = some r → ds.length + 1 = ps.length)
    (hbody : ∀ (i : ι) (cdv : Value) (A : Around) (outer : List Env) (s : Shared) (S H : Hp) (E : XK), Room k (A.deeper (envOfC qual (defScope st) s.heap.objs.size f cdv)) →
      ∃ t, DSs ⟨Rs i, S, H, E⟩ (cxOf (L2N.CX P w) P w K mg base N qual (defScope st) f cdv A outer s H E) (defBody st) t (g i))
    (heq : ∀ i γ ds r, F i γ ds = some r → Gd (g i (entry N.length [.ref (ad i)] ds γ)) r) : FnOk P w K mg base (L2N.CX P w) (k + 1) f fd ps (spR Rs ad F) := by
  refine okN Fu Sc (fun vs H Q E h => ?_) (fun cdv A outer s H vs Q E hr h => ?_)
  · obtain ⟨i, ws, S, γ, ds, r, e0, _, _, _, ha, e, _⟩ := h
    rw [e0, ← hlen i γ ds r e, List.length_append, Paired.length ha]
    exact Nat.add_comm _ _
  · obtain ⟨i, ws, S, γ, ds, r, e0, hS, hM, hok, ha, e, ret⟩ := h
    subst e0
    obtain ⟨t, D⟩ := hbody i cdv A outer s S H E hr
    have hl : ([V.ref (ad i)] ++ ws : List V).length ≤ N.length := by
      rw [List.length_append, Paired.length ha, List.length_singleton, Nat.add_comm, hlen i γ ds r e]
      have : (N.take ps.length).length = ps.length := by rw [Sc.pre]
      rw [List.length_take] at this
      omega
    exact ⟨t, D.pe, run_body D hS hM hok ha hl (heq i γ ds r e) ret⟩
end
abbrev BFn := RFn bagR
abbrev spBag (F : BFn) : Sp := spR bagR id F
section
variable {K : PySem.W.Frag}
/-- _law_take -/
def takeR (γ : Bag) (m : Int) : Int := (γ.1.getD ((γ.2 + 1) % (γ.1.length : Int)).toNat 0) % m
def F_take : BFn := fun _ γ ds => match ds with
  | [.int m] => if 0 < m ∧ 0 < γ.1.length then some (.ok (.sh (.int (takeR γ m))) (γ.1, γ.2 + 1)) else none
  | _ => none
theorem take_fn {ab : Addr} {N : List Str} (mn : N.length = 2) {vs : List V} {H : Hp} {Q : VK} {E : XK} (h : spG (bagR ab) [.ref ab] (F_take ab) vs H Q E) :
    tSeq (tAsg (tOp (rI0 fun i j => .int (i + j)) (tOp (rIxL K) (tVar 0) (tC (.int 1))) (tC (.int 1))) (gSub (tVar 0) (tC (.int 1)) rSetL))
      (tRet (tOp (rI (fun _ j => 0 < j) fun i j => .int (i % j)) (tOp (rIxL K) (tOp (rIxL K) (tVar 0) (tC (.int 0))) (tOp (rI (fun _ j => 0 < j) fun i j => .int (i % j)) (tOp (rIxL K) (tVar 0) (tC (.int 1))) (tCB (fun xs H Q => ∃ p ys, xs = [.ref p] ∧ (SqL K H p ys ∨ SqT K H p ys) ∧ Q (.int ys.length) H) (tCons (tOp (rIxL K) (tVar 0) (tC (.int 0))) tNil)))) (tVar 1)))
      { nx := fun _ H' => Q .non H', rt := Q } (L2.start N vs) H := by
  obtain ⟨ws, S, γ, ds, r, rfl, hS, hM, ⟨al, h1, h2⟩, ha, e, ret⟩ := h
  unfold F_take at e
  split at e
  · rename_i m
    split at e
    · rename_i hz
      cases e
      cases ha with
      | cons ka kr =>
        rename_i v ws'
        cases kr
        have ev : v = .int m := by
          rcases ka with ka | ⟨_, _, _, _, z, _⟩
          · cases ka
            rfl
          · cases z
        subst ev
        have est : L2.start N ([V.ref ab] ++ [V.int m]) = [some (V.ref ab), some (V.int m)] := by
          unfold L2.start
          rw [mn]
          rfl
        rw [est]
        have hal : H al = some (.lst (γ.1.map V.int)) := hS _ _ h2
        have ne : al ≠ ab := fun z => by
          rw [z] at h2
          rw [hM ab rfl] at h2
          cases h2
        have hu : upd H ab (.lst [V.ref al, V.int (γ.2 + 1)]) al = some (.lst (γ.1.map V.int)) := by
          rw [upd_ne ne]
          exact hal
        have hlen : (0 : Int) < ((γ.1.map V.int).length : Int) := by
          rw [List.length_map]
          omega
        have hi0 : 0 ≤ (γ.2 + 1) % ((γ.1.map V.int).length : Int) := Int.emod_nonneg _ (by omega)
        have hi1 : (γ.2 + 1) % ((γ.1.map V.int).length : Int) < ((γ.1.map V.int).length : Int) := Int.emod_lt_of_pos _ hlen
        refine ⟨.ref ab, rfl, ab, _, 1, _, rfl, rfl, SqL.of h1, atI_nat (j := 1) rfl, γ.2, 1, rfl, rfl, .ref ab, rfl, ab, _, 1, 1, rfl, rfl, h1, rfl, ?_⟩
        refine ⟨.ref ab, rfl, ab, _, 0, _, rfl, rfl, SqL.of upd_same, atI_nat (j := 0) rfl, .ref ab, rfl, ab, _, 1, _, rfl, rfl, SqL.of upd_same, atI_nat (j := 1) rfl, .ref ab, rfl, ab, _, 0, _, rfl, rfl, SqL.of upd_same, atI_nat (j := 0) rfl, ?_⟩
        refine ⟨al, _, rfl, .inl (SqL.of hu), γ.2 + 1, _, rfl, rfl, hlen, al, _, _, .int (γ.1.getD ((γ.2 + 1) % (γ.1.length : Int)).toNat 0), rfl, rfl, SqL.of hu, ?_, .int m, rfl, _, m, rfl, rfl, hz.1, ?_⟩
        · refine at_of (j := ((γ.2 + 1) % ((γ.1.map V.int).length : Int)).toNat) (by omega) ?_
          rw [List.length_map] at hi0 hi1 ⊢
          rw [List.getElem?_map, List.getElem?_eq_getElem (by omega), List.getD_eq_getElem?_getD, List.getElem?_eq_getElem (by omega)]
          rfl
        · refine ret _ S _ ⟨Same.refl _, fun b o nb q => ?_, fun b o q => .inl q, fun b o q => ?_, al, upd_same, h2⟩ (Dq.int _)
          · rw [upd_ne nb]
            exact q
          · have nb : b ≠ ab := fun z => by
              rw [z, hM ab rfl] at q
              cases q
            rw [upd_ne nb]
            exact hS _ _ q
    · cases e
  · cases e
end
end Kn
set_option Elab.async false
set_option linter.all false
set_option maxRecDepth 100000
set_option maxHeartbeats 4000000
namespace Kn
open PySem PySem.Spec L2
open PyProof.Rows hiding St
/-! ### the promise read off the denotation -/
def toRes {R : Rsc} : Out (Exn R) (Fl R) → Option (Res R.Γ)
  | .ok (.rt val τ) => some (.ok val τ.γ)
  | .ok (.nx τ) => some (.ok (.sh .none) τ.γ)
  | .exc e => some (.err e.C e.f e.γ)
  | _ => none
theorem gd_toRes {R : Rsc} {out : Out (Exn R) (Fl R)} {r : Res R.Γ} (h : toRes out = some r) : Gd out r := by
  match out, h with
  | .ok (.rt val τ), h =>
    cases h
    exact .inl ⟨τ, rfl, rfl⟩
  | .ok (.nx τ), h =>
    cases h
    exact .inr ⟨rfl, τ, rfl, rfl⟩
  | .exc e, h =>
    cases h
    rfl
def runF (n np : Nat) (g : DenS R0) : PFn := fun ds => if ds.length = np then toRes (g (entry n [] ds ())) else none
theorem ite_some {c : Prop} [Decidable c] {α : Type} {x : Option α} {r : α} (h : (if c then x else none) = some r) : c ∧ x = some r := by
  by_cases z : c
  · exact ⟨z, by rw [if_pos z] at h; exact h⟩
  · rw [if_neg z] at h
    cases h
theorem hl_runF {n np : Nat} {g : DenS R0} (ds : List PyData) (r : Res Unit) (h : runF n np g ds = some r) : ds.length = np := (ite_some h).1
theorem he_runF {n np : Nat} {g : DenS R0} (ds : List PyData) (r : Res Unit) (h : runF n np g ds = some r) : Gd (g (entry n [] ds ())) r := gd_toRes (ite_some h).2
section
variable {ι : Type} {Rs : ι → Rsc} {ad : ι → Addr}
def runR (Rs : ι → Rsc) (ad : ι → Addr) (n np : Nat) (g : ∀ i, DenS (Rs i)) : RFn Rs := fun i γ ds => if ds.length + 1 = np then toRes (g i (entry n [.ref (ad i)] ds γ)) else none
theorem hl_runR {n np : Nat} {g : ∀ i, DenS (Rs i)} (i : ι) (γ : (Rs i).Γ) (ds : List PyData) (r : Res (Rs i).Γ) (h : runR Rs ad n np g i γ ds = some r) : ds.length + 1 = np := (ite_some h).1
theorem he_runR {n np : Nat} {g : ∀ i, DenS (Rs i)} (i : ι) (γ : (Rs i).Γ) (ds : List PyData) (r : Res (Rs i).Γ) (h : runR Rs ad n np g i γ ds = some r) : Gd (g i (entry n [.ref (ad i)] ds γ)) r := gd_toRes (ite_some h).2
end
/-! ### the script -/
abbrev scrR (K : PySem.W.Frag) (p : Addr × List Int) : Rsc where
  Γ := Unit
  M := fun _ => False
  ok := fun _ S _ => SqL K S p.1 (p.2.map V.int)
  stab := fun _ _ _ _ _ hs _ h => hs.seq h
  mem := fun _ _ _ _ _ h => h.elim
abbrev SFn (K : PySem.W.Frag) := RFn (scrR K)
def fLenR (p : Addr × List Int) : List Val → Option Val
  | [.rw v] => if v = .ref p.1 then some (.sh (.int p.2.length)) else none
  | _ => none
def fIxR (p : Addr × List Int) : Val → Val → Option Val := fun a b => match a, b.int with
  | .rw v, some k => if v = .ref p.1 ∧ 0 ≤ k ∧ k < p.2.length then some (.sh (.int (p.2.getD k.toNat 0))) else none
  | _, _ => none
section
variable {K : PySem.W.Frag} {p : Addr × List Int} {S0 H0 : Hp} {E : XK}
theorem s_lenR : CallS ⟨scrR K p, S0, H0, E⟩ (fun xs H Q => ∃ p ys, xs = [.ref p] ∧ (SqL K H p ys ∨ SqT K H p ys) ∧ Q (.int ys.length) H) (fLenR p) := by
  intro S H σ τ vs as c Q R ka e q
  unfold fLenR at e
  split at e
  · rename_i v
    by_cases z : v = .ref p.1
    · rw [if_pos z] at e
      cases e
      cases ka with
      | cons k0 kr =>
        rename_i v' ws
        cases kr
        have k0 : v' = v := k0
        subst k0
        subst z
        have hr : SqL K S p.1 (p.2.map V.int) := R.res
        refine ⟨p.1, _, rfl, .inl (R.sub.seq hr), ?_⟩
        rw [List.length_map]
        exact q _ S H .refl R (Dq.int _) frS
    · rw [if_neg z] at e
      cases e
  · cases e
theorem s_ixR : OpS ⟨scrR K p, S0, H0, E⟩ (rIxL K) (fIxR p) := by
  intro S H σ τ v w a b c Q R ka kb e q
  unfold fIxR at e
  split at e
  · rename_i v' k eb
    by_cases z : v' = .ref p.1 ∧ 0 ≤ k ∧ k < p.2.length
    · rw [if_pos z] at e
      cases e
      obtain ⟨rfl, z1, z2⟩ := z
      have ka : v = .ref p.1 := ka
      obtain ⟨rfl, _⟩ := kb.int eb
      subst ka
      have hr : SqL K S p.1 (p.2.map V.int) := R.res
      refine ⟨p.1, _, k, .int (p.2.getD k.toNat 0), rfl, rfl, R.sub.seq hr, ?_, q _ S H .refl R (Dq.int _) frS⟩
      have hk : ((k.toNat : Nat) : Int) = k := Int.toNat_of_nonneg z1
      rw [← hk]
      refine atI_nat ?_
      rw [List.getElem?_map, List.getElem?_eq_getElem (by omega), List.getD_eq_getElem?_getD, List.getElem?_eq_getElem (by omega)]
      rfl
    · rw [if_neg z] at e
      cases e
  · cases e
variable {X : Cx} {a b e : Expr} {es : List Expr} {ta tb : TE} {ga gb : Den (scrR K p)} {t : TA} {g : DenA (scrR K p)} {pos : Pos}
theorem de_ixR (ha : DE ⟨scrR K p, S0, H0, E⟩ X a ta ga) (hb : DE ⟨scrR K p, S0, H0, E⟩ X b tb gb) (hs : PlainIx b := by exact fun _ _ => rfl) (hK : X.K = K := by rfl) : DE ⟨scrR K p, S0, H0, E⟩ X (.Subscript a b pos) (tOp (rIxL K) ta tb) (dOp (fIxR p) ga gb) := by
  subst hK
  exact ⟨pe_ix ix_list ha.pe hb.pe hs, snd_op s_ixR ha.sd hb.sd⟩
end
end Kn
set_option Elab.async false
set_option linter.all false
set_option maxRecDepth 100000
set_option maxHeartbeats 4000000
namespace Kn
open PySem PySem.Spec L2
open PyProof.Rows hiding St
structure Bags (H0 S' H' : Hp) (abs : List Addr) (drs : List (List Int)) : Prop where
  len : abs.length = drs.length
  at_ : ∀ (j : Nat) (ab : Addr), abs[j]? = some ab → ∃ (al : Addr) (d : List Int), drs[j]? = some d ∧ H' ab = some (.lst [.ref al, .int 0]) ∧ S' al = some (.lst (d.map V.int)) ∧ S' ab = none ∧ H0 ab = none
  nd : abs.Nodup
theorem Gro.fresh {B : Bs} {S H S1 H1 : Hp} {σ : St} {sl sl1 : List Sl} (g : Gro B σ S H sl S1 H1 sl1) {a : Addr} {o : HO} (h1 : H a = some o) (h2 : S a = none) (h3 : ¬ Own σ sl a) : S1 a = none := by
  cases q : S1 a with
  | none => rfl
  | some u =>
    rcases g.n a u q with e | ⟨m, e | e⟩
    · rw [h2] at e
      cases e
    · rw [h1] at e
      cases e
    · exact absurd e h3
section
variable {B : Bs}
theorem snd_bagsLc {lz : Bool} {wi : TI} {g : TG} {tt : TT} {te : TE} {gi : DenI B.R} {set : SetD B.R} {is vs : List Nat} {ge : Den B.R} (hi : SndI B lz wi gi) (hg : SndG B lz g set is) (ht : SndT B tt dYes) (he : SndE B te ge) (his : ∀ i ∈ is, i ∈ vs)
    {S H : Hp} {σ : St} {τ : Tau B.R} {Q : VK} (R : Rel B S H σ τ) {items : List PyData} {τ1 : Tau B.R} (ei : gi τ = .ok (items, τ1)) (hz : items.length ≤ sizeLine) (dr : PyData → List Int)
    (hit : ∀ d ∈ items, ∃ τ2 τ3, set d (τ1.wipe vs) = some τ2 ∧ ge τ2 = .ok (.fr [.list (nsD (dr d)), .int 0], τ3) ∧ τ3.wipe vs = τ1.wipe vs)
    (k : ∀ (D : Addr) (abs : List Addr) (S' H' : Hp) (τ' : Tau B.R), Rel B S' H' σ τ' → H' D = some (.lst (abs.map V.ref)) → Bags B.H0 S' H' abs (items.map dr) → Q (.ref D) H') : tLc wi g tt te vs σ H Q := by
  refine hi S H σ τ _ R ?_
  rw [ei]
  intro J S1 H1 G1 R1 o1 _
  obtain ⟨Gp, Y, W, hG, hY⟩ := o1
  intro D hD
  have agree : ∀ k, k ∉ vs → (wipe σ vs)[k]? = σ[k]? := fun k n => by rw [wipe_get, if_neg n]
  have agree' : ∀ k, k ∉ vs → σ[k]? = (wipe σ vs)[k]? := fun k n => (agree k n).symm
  have qD := R1.hnone hD
  have ownW : ∀ b, Own (wipe σ vs) (τ1.wipe vs).sl b → Own σ τ1.sl b := fun b o => own_off (fun k n => agree k n) o
  have RD : Rel B S1 (upd H1 D (.lst [])) (wipe σ vs) (τ1.wipe vs) := (R1.lay hD).off (wipe_length ..) agree
  refine lc_it W (fun i H' => ∃ (S' : Hp) (abs : List Addr), Rel B S' H' (wipe σ vs) (τ1.wipe vs) ∧ Same S1 S' ∧ H' D = some (.lst (abs.map V.ref)) ∧ S' D = none ∧ Bags B.H0 S' H' abs ((items.take i).map dr) ∧ ∀ ab ∈ abs, ¬ B.R.M ab ∧ ¬ Own (wipe σ vs) (τ1.wipe vs).sl ab)
    ⟨S1, [], RD, Same.refl _, upd_same, qD.1, ⟨rfl, fun j ab e => by simp at e, List.nodup_nil⟩, fun _ h => by cases h⟩
    (fun i H' _ ⟨S', abs, ra, sa, _⟩ => hG S' H' sa ra.sub ra.ent) (fun i x Ha Hb hi pv y => ?_) (fun H' pv => ?_)
  · obtain ⟨S', abs, ra, sa, hDa, hSD, hb, hab⟩ := pv
    have hd : items[i]? = some items[i] := List.getElem?_eq_getElem hi
    have ey : YOk lz S' Ha x Hb items[i] := hY i Ha x Hb _ S' hd sa ra.sub ra.ent y
    obtain ⟨gb, rb, kb⟩ := yok_lay ra ey
    obtain ⟨τ2, τ3, es, ee, ew⟩ := hit items[i] (List.getElem_mem hi)
    refine hg S' Hb (wipe σ vs) (τ1.wipe vs) x _ τ2 _ rb kb es fun σ2 R2 l2 w2 ow2 => ⟨by rw [w2 vs his, wipe_idem], ?_⟩
    have l2' : σ2.length = σ.length := by rw [l2, wipe_length]
    have agree2 : ∀ k, k ∉ vs → σ2[k]? = σ[k]? := fun k n => wipe_agree l2' (by rw [w2 vs his, wipe_idem]) n
    refine ht S' Hb σ2 τ2 _ R2 ?_
    intro b' S3 H3 G3 R3 eb _
    have eb : b' = true := eb
    subst eb
    simp only [if_true]
    refine he S3 H3 σ2 τ2 _ R3 ?_
    rw [ee]
    intro y S4 H4 G4 R4 ky fy
    obtain ⟨a, ws, rfl, ka1, ka2, ka3, ka4, ka5, ka6⟩ := ky
    have fa := fy rfl a rfl
    have nDM : ¬ B.R.M D := qD.2.2.1
    have nDO : ¬ Own σ2 τ2.sl D := fun o => qD.2.2.2 (ownW D (ow2 D o))
    have g34 := G3.trans G4
    have hDb : Hb D = some (.lst (abs.map V.ref)) := gb.h _ _ nDM hDa
    have hD4 : H4 D = some (.lst (abs.map V.ref)) := g34.h _ _ nDM hDb
    have hSD4 : S4 D = none := g34.fresh hDb hSD nDO
    have naD : a ≠ D := fun z => by
      subst z
      rcases fa.2 with f | f
      · rw [G3.h _ _ nDM hDb] at f
        cases f
      · exact nDO (G3.o _ f)
    have R4' : Rel B S4 H4 (wipe σ vs) (τ1.wipe vs) := by
      rw [← ew]
      exact R4.off (by rw [wipe_length, l2']) (fun k n => by rw [agree k n, agree2 k n])
    have hlen : abs.length = i := by
      rw [hb.len, List.length_map, List.length_take]
      omega
    have nOwn : ¬ Own (wipe σ vs) (τ1.wipe vs).sl a := fun o => ka5 (by
      rw [← ew] at o
      exact own_off (fun k n => by rw [agree k n, agree2 k n]) o)
    have old : ∀ ab ∈ abs, ab ≠ D ∧ ab ≠ a ∧ H4 ab = Ha ab ∧ S4 ab = none := fun ab m => by
      obtain ⟨nM, nO⟩ := hab ab m
      obtain ⟨j, e⟩ := List.getElem?_of_mem m
      obtain ⟨al, d, e1, e2, e3, e4, e5⟩ := hb.at_ j ab e
      have n1 : ab ≠ D := fun z => by
        subst z
        rw [hDa] at e2
        have e2 := HO.lst.inj (Option.some.inj e2)
        have c1 : (abs.map V.ref)[1]? = some (V.int 0) := by
          rw [e2]
          rfl
        rw [List.getElem?_map] at c1
        obtain ⟨_, _, c2⟩ := Option.map_eq_some_iff.mp c1
        cases c2
      have hb' := gb.h _ _ nM e2
      have nO2 : ¬ Own σ2 τ2.sl ab := fun o => nO (ow2 ab o)
      refine ⟨n1, fun z => ?_, (g34.h _ _ nM hb').trans e2.symm, g34.fresh hb' e4 nO2⟩
      subst z
      rcases fa.2 with f | f
      · rw [G3.h _ _ nM hb'] at f
        cases f
      · exact nO2 (G3.o _ f)
    refine ⟨abs.map V.ref, hD4, by rw [List.length_map, hlen]; omega, S4, abs ++ [a], R4'.updFr hD4 hSD4 nDM qD.2.1 (fun o => qD.2.2.2 (ownW D o)), sa.trans (gb.s.trans g34.s), ?_, hSD4, ?_, fun ab m => ?_⟩
    · rw [upd_same, List.map_append]
      rfl
    · have et : (items.take (i + 1)).map dr = (items.take i).map dr ++ [dr items[i]] := by
        rw [List.take_add_one, hd, List.map_append]
        rfl
      rw [et]
      refine ⟨by rw [List.length_append, List.length_append, hb.len]; rfl, fun j ab e => ?_, ?_⟩
      · by_cases z : j < abs.length
        · rw [List.getElem?_append_left z] at e
          obtain ⟨al, d, e1, e2, e3, e4, e5⟩ := hb.at_ j ab e
          obtain ⟨o1, o2, o3, o4⟩ := old ab (List.mem_of_getElem? e)
          refine ⟨al, d, ?_, ?_, (gb.s.trans g34.s) _ _ e3, o4, e5⟩
          · rw [List.getElem?_append_left (by rw [← hb.len]; exact z)]
            exact e1
          · rw [upd_ne o1, o3]
            exact e2
        · rw [List.getElem?_append_right (by omega)] at e
          have ej : j = abs.length := by
            have := List.getElem?_eq_some_iff.mp e
            obtain ⟨h, _⟩ := this
            simp at h
            omega
          subst ej
          simp at e
          subst e
          cases ka6 with
          | cons q1 q2 =>
            cases q2 with
            | cons q3 q4 =>
              cases q4
              cases q3
              cases q1 with
              | lst h1 h2 =>
                rename_i al xs
                rw [DqA.of_nsD h2] at h1
                refine ⟨_, dr items[i], ?_, ?_, h1, ka2, ka4⟩
                · rw [hb.len, List.getElem?_append_right (Nat.le_refl _), Nat.sub_self]
                  rfl
                · rw [upd_ne naD]
                  exact ka1
      · rw [List.nodup_append]
        refine ⟨hb.nd, by simp, fun x m y m2 => ?_⟩
        rw [List.mem_singleton] at m2
        subst m2
        exact (old x m).2.1
    · rw [List.mem_append] at m
      rcases m with m | m
      · exact hab ab m
      · rw [List.mem_singleton] at m
        subst m
        exact ⟨ka3, nOwn⟩
  · obtain ⟨S', abs, ra, sa, hDa, hSD, hb, hab⟩ := pv
    rw [List.take_length] at hb
    exact k D abs S' H' (τ1.wipe vs) (ra.offU (by rw [wipe_length]) agree' (uns_wipe _ _)) hDa hb
end
end Kn
set_option Elab.async false
set_option linter.all false
set_option maxRecDepth 100000
set_option maxHeartbeats 4000000
namespace Kn
open PySem PySem.Spec L2
open PyProof.Rows hiding St
def isDraw (d : List Int) : Prop := d.length = 400 ∧ ∀ x ∈ d, 0 ≤ x ∧ x < 1000
def spBags (K : PySem.W.Frag) : Sp := fun vs H Q _ => ∃ (p : Addr × List Int) (lim : Int) (S : Hp), vs = [.ref p.1, .int lim] ∧ Same S H ∧ SqL K S p.1 (p.2.map V.int) ∧ p.2.length ≤ 63 ∧ 1 ≤ lim ∧ lim ≤ 63 ∧
  ∀ (D : Addr) (abs : List Addr) (drs : List (List Int)) (S' H' : Hp), After (scrR K p) S H () S' H' → H' D = some (.lst (abs.map V.ref)) → Bags H S' H' abs drs → (∀ d ∈ drs, isDraw d) → Q (.ref D) H'
structure CalBags (P : Program) (w : World) (K : PySem.W.Frag) (mg : Str → Option Value) (base : Heap) (x : Str) (k : Nat) : Prop where
  ex : ∃ (f : Addr) (fd : FuncData) (ps : List Str), FnOk P w K mg base (L2N.CX P w) k f fd ps (spBags K) ∧ mg x = some (.ref f) ∧ PySem.W.keepIn K (.ref f) = true ∧ Binds K fd ps []
theorem CalBags.of {P : Program} {w : World} {K : PySem.W.Frag} {mg : Str → Option Value} {base : Heap} {x : Str} {k : Nat} {f : Addr} {fd : FuncData} {ps : List Str} (h : FnOk P w K mg base (L2N.CX P w) (k + 1) f fd ps (spBags K)) (gm : mg x = some (.ref f)) (kp : PySem.W.keepIn K (.ref f) = true) (b : Binds K fd ps []) : CalBags P w K mg base x (k + 1) := ⟨f, fd, ps, h, gm, kp, b⟩
/-- a body that returns the list of bags -/
structure DBg (B : Bs) (X : Cx) (st : List Stmt) (t : TS) (gi : DenI B.R) (set : SetD B.R) (ge : Den B.R) (vs : List Nat) : Prop where
  pe : PSs X st t
  sd : ∀ (S H : Hp) (σ : St) (τ : Tau B.R) (D : Ends) (items : List PyData) (τ1 : Tau B.R) (dr : PyData → List Int), Rel B S H σ τ → gi τ = .ok (items, τ1) → items.length ≤ sizeLine →
    (∀ d ∈ items, ∃ τ2 τ3, set d (τ1.wipe vs) = some τ2 ∧ ge τ2 = .ok (.fr [.list (nsD (dr d)), .int 0], τ3) ∧ τ3.wipe vs = τ1.wipe vs) →
    (∀ (D' : Addr) (abs : List Addr) (S' H' : Hp) (τ' : Tau B.R), Rel B S' H' σ τ' → H' D' = some (.lst (abs.map V.ref)) → Bags B.H0 S' H' abs (items.map dr) → D.rt (.ref D') H') → t D σ H
theorem dbg_ret {X : Cx} {B : Bs} {lz : Bool} {elt tg iter : Expr} {ifs : List Expr} {scope : Scope} {own : List (Str × Nat)} {pos rp : Pos} {wi : TI} {g : TG} {tt : TT} {te : TE} {gi : DenI B.R} {set : SetD B.R} {is : List Nat} {ge : Den B.R}
    (hc : X.calm = true) (hN : X.N.Nodup) (hi : DI B lz X tg iter wi gi) (ok : BlkOk X.N X.env.scope scope own)
    (hg : ∀ (s : Shared) (H : Hp) (C : Addr) (cl : List (Str × Addr)) (fp : List Addr), DG B lz (X.blk s H scope (compEnvC scope cl C X.env) fp) tg g set is) (ht : ∀ (s : Shared) (H : Hp) (C : Addr) (cl : List (Str × Addr)) (fp : List Addr), DTs B (X.blk s H scope (compEnvC scope cl C X.env) fp) ifs tt dYes)
    (he : ∀ (s : Shared) (H : Hp) (C : Addr) (cl : List (Str × Addr)) (fp : List Addr), DE B (X.blk s H scope (compEnvC scope cl C X.env) fp) elt te ge) (his : ∀ i ∈ is, i ∈ own.map (·.2)) (hs : ∀ x, foldedSetIterable iter X.env x = pure x := by intro _; rfl) :
    DBg B X [.Return (some (.ListComp elt [⟨tg, iter, ifs, 0⟩] scope pos)) rp] (tSeq (tRet (tLc wi g tt te (own.map (·.2)))) tNext) gi set ge (own.map (·.2)) :=
  ⟨pss_cons (ps_ret (pe_lc hc hN hi.pe ok (fun s H C cl fp => (hg s H C cl fp).pe) (fun s H C cl fp => (ht s H C cl fp).pe) (fun s H C cl fp => (he s H C cl fp).pe) hs)) pss_nil,
    fun S H σ τ D items τ1 dr R ei hz hit k => snd_bagsLc hi.sd (hg X.s_0 X.H_0 0 [] []).sd (ht X.s_0 X.H_0 0 [] []).sd (he X.s_0 X.H_0 0 [] []).sd his R ei hz dr hit k⟩
section
variable {P : Program} {w : World} {K : PySem.W.Frag} {mg : Str → Option Value} {base : Heap}
theorem fn_bags {x qual : Str} {st : Stmt} {f : Addr} {fd : FuncData} {ps : List Str} {N : List Str} {k : Nat} (Fu : Fun K x qual st f fd) (Sc : FnScope N ps (defScope st)) (hps : ps.length = 2) (hN : N.length = 3)
    {gi : ∀ p, DenI (scrR K p)} {ge : ∀ p, Den (scrR K p)} (dr : Addr × List Int → PyData → List Int)
    (hbody : ∀ (p : Addr × List Int) (cdv : Value) (A : Around) (outer : List Env) (s : Shared) (S H : Hp) (E : XK), Room k (A.deeper (envOfC qual (defScope st) s.heap.objs.size f cdv)) →
      ∃ t, DBg ⟨scrR K p, S, H, E⟩ (cxOf (L2N.CX P w) P w K mg base N qual (defScope st) f cdv A outer s H E) (defBody st) t (gi p) (setN 2) (ge p) [2])
    (hit : ∀ (p : Addr × List Int) (lim : Int), p.2.length ≤ 63 → 1 ≤ lim → lim ≤ 63 → ∃ items, gi p (entry 3 [.ref p.1] [.int lim] ()) = .ok (items, entry 3 [.ref p.1] [.int lim] ()) ∧ items.length ≤ 63 ∧
      ∀ d ∈ items, isDraw (dr p d) ∧ ∃ τ3, ge p ⟨[.rw (.ref p.1), .ar (.int lim), .sh d], ()⟩ = .ok (.fr [.list (nsD (dr p d)), .int 0], τ3) ∧ τ3.wipe [2] = entry 3 [.ref p.1] [.int lim] ()) : FnOk P w K mg base (L2N.CX P w) (k + 1) f fd ps (spBags K) := by
  refine okN Fu Sc (fun vs H Q E h => ?_) (fun cdv A outer s H vs Q E hr h => ?_)
  · obtain ⟨p, lim, S, rfl, _⟩ := h
    exact hps.symm
  · obtain ⟨p, lim, S, rfl, hS, hq, hl, l1, l2, ret⟩ := h
    obtain ⟨t, D⟩ := hbody p cdv A outer s S H E hr
    obtain ⟨items, e1, e2, e3⟩ := hit p lim hl l1 l2
    refine ⟨t, D.pe, ?_⟩
    have ha : ArgsOk (scrR K p) H S [V.int lim] [PyData.int lim] := .cons (.inl (.int lim)) .nil
    have R0 := entry_rel (E := E) (R := scrR K p) (S := S) (H := H) (pre := [.ref p.1]) (ws := [.int lim]) (ds := [.int lim]) (γ := ()) (N := N) hS (fun _ z => z.elim) hq ha (by rw [hN]; exact Nat.le_succ 2)
    rw [hN] at R0
    have small : items.length ≤ sizeLine := Nat.le_trans e2 (by decide)
    refine D.sd S H _ _ _ items _ (dr p) R0 e1 small (fun d m => ?_) (fun D' abs S' H' τ' r h1 h2 => ?_)
    · obtain ⟨q1, τ3, q2, q3⟩ := e3 d m
      exact ⟨⟨[.rw (.ref p.1), .ar (.int lim), .sh d], ()⟩, τ3, rfl, q2, q3⟩
    · refine ret D' abs _ S' H' ⟨r.s0, fun b o _ e => r.ent b o (fun z => z) e, fun b o e => (r.new b o e).imp id fun z => ⟨fun z => z, z⟩, r.sub, r.res⟩ h1 h2 fun d m => ?_
      obtain ⟨y, m1, rfl⟩ := List.mem_map.mp m
      exact (e3 y m1).1
/-! the law's loop over its bags -/
def dBags {K : PySem.W.Frag} (p : Addr × List Int) (n : Nat) : DenS (scrR K p) := fun τ => match τ.sl[0]? with
  | some (Sl.rw v) => if v = .ref p.1 ∧ τ.sl.length = n then .ok (.nx ⟨List.replicate n .un, ()⟩) else .bad
  | _ => .bad
def bagSlots (n ib : Nat) (ab : Addr) (d : List Int) : Tau (bagR ab) := ⟨(List.replicate n Sl.un).set ib (.rw (.ref ab)), (d, 0)⟩
theorem ds_bags {X : Cx} {p : Addr × List Int} {S0 H0 : Hp} {E : XK} {k ib : Nat} {x bg sc : Str} {lim : Int} {fp cp bp ap lp : Pos} {j : Nat} {body : List Stmt} {tb : TS} (n : Nat) (gb : ∀ ab, DenS (bagR ab))
    (hl : p.2.length ≤ 63) (l1 : 1 ≤ lim) (l2 : lim ≤ 63) (hp : PassesOwn (model X.prog X.w) X.A X.env X.xe) (hc : X.calm = true) (c : CalBags X.prog X.w X.K X.mg X.base x k) (hr : Room k X.A) (hg : Gl X x) (hNd : X.N.Nodup) (hN : X.N.length = n)
    (hi : X.N[ib]? = some bg) (hx : Loc X.env.scope bg) (hf : X.fn bg = true ∨ X.env.scope.names.lookup bg = some .local) (h0 : X.N[0]? = some sc) (hv : Vis X.env.scope sc)
    (hb : ∀ (ab : Addr) (S H : Hp), DSs ⟨bagR ab, S, H, E⟩ X body tb (gb ab))
    (good : ∀ (ab : Addr) (d : List Int), isDraw d → ∃ τ', gb ab (bagSlots n ib ab d) = .ok (.nx τ') ∧ τ'.sl.length = n)
    (hK : X.K = K := by rfl)
    (hdb : (x == ("__debug__" : Str)) = false := by decide) (he : starEach [.Name sc ap, .Constant (.int lim) j lp] X.env = (false, eval (.Name sc ap) X.env) :: starEach [.Constant (.int lim) j lp] X.env := by rfl) (he2 : starEach [.Constant (.int lim) j lp] X.env = (false, eval (.Constant (.int lim) j lp) X.env) :: starEach [] X.env := by rfl)
    (hpl : (backTo cp (starEach [.Constant (.int lim) j lp] X.env)).any (·.1) = false := by rfl) (hd : (sc == ("__debug__" : Str)) = false := by decide) (hcd : (sc == ("__classdict__" : Str)) = false := by decide) :
    DS ⟨scrR K p, S0, H0, E⟩ X (.For (.Name bg bp) (.Call (.Name x fp) [.Name sc ap, .Constant (.int lim) j lp] [] cp) body [] pos) (tFor (iList K (tCall (spBags K) [] E0 (tCons (tVar 0) (tCons (tC (.int lim)) tNil)))) (gName ib) tb) (dBags p n) := by
  subst hK
  obtain ⟨f, fd, ps, hF, gm, kp, bnd⟩ := c.ex
  refine ⟨ps_for hp hc (pi_list (pe_call hF hr hg gm kp bnd .nil passN (pa_cons (pe_var h0 hv hd hcd) (pa_cons pe_int pa_nil he2) he) hdb he hpl)) (pg_name hNd hi hx hf) (hb 0 S0 H0).pe (by intro _; rfl), fun S H σ τ D R q => ?_⟩
  unfold dBags at q
  split at q
  · rename_i v es
    by_cases z : v = .ref p.1 ∧ τ.sl.length = n
    · rw [if_pos z] at q
      obtain ⟨rfl, hn⟩ := z
      have e0 : σ[0]? = some (some (.ref p.1)) := R.sl 0 _ es
      refine ⟨.ref p.1, e0, p, lim, S, rfl, R.sub, R.res, hl, l1, l2, fun D' abs drs S' H' aft hD bgs hdr => ?_⟩
      have R1 : Rel ⟨scrR X.K p, S0, H0, E⟩ S' H' σ ⟨τ.sl, ()⟩ := R.grown aft
      refine ⟨D', rfl, ⟨_, SqL.of hD⟩, for_it (walk_list (xs := abs.map V.ref)) (fun i σ' Hi => ∃ Si : Hp, σ'.length = σ.length ∧ Same S' Si ∧ Same Si Hi ∧ (∀ b o, H0 b = some o → Hi b = some o) ∧ (∀ b o, Si b = some o → S0 b = some o ∨ H0 b = none) ∧ Hi D' = some (.lst (abs.map V.ref)) ∧
        ∀ j ab, i ≤ j → abs[j]? = some ab → Hi ab = H' ab ∧ Si ab = none) ⟨S', rfl, Same.refl _, R1.sub, fun b o e => R1.ent b o (fun z => z) e, R1.new, hD, fun j ab _ e => ?_⟩ (fun i σ' Hi _ ⟨Si, _, _, _, _, _, e, _⟩ => SqL.of e) (fun i x σ1 Ha Hb hlt pv y => ?_) (fun σ1 Ha pv => ?_)⟩
      · obtain ⟨al, d, _, _, _, s, _⟩ := bgs.at_ j ab e
        exact ⟨rfl, s⟩
      · obtain ⟨Si, p1, p2, p3, p4, p5, p6, p7⟩ := pv
        obtain ⟨rfl, ex⟩ := y
        rw [List.getElem?_map] at ex
        obtain ⟨ab, ea, rfl⟩ := Option.map_eq_some_iff.mp ex
        obtain ⟨al, d, d1, d2, d3, d4, d5⟩ := bgs.at_ i ab ea
        obtain ⟨q1, q2⟩ := p7 i ab (Nat.le_refl _) ea
        obtain ⟨τ', g1, g2⟩ := good ab d (hdr d (List.mem_of_getElem? d1))
        have hg1 : Hb ab = some (.lst [.ref al, .int 0]) := q1.trans d2
        have hg2 : Si al = some (.lst (d.map V.int)) := p2 _ _ d3
        have hH0 : H0 ab = none := (R.hnone d5).2.1
        have hlen : (bagSlots n ib ab d).sl.length = n := by simp [bagSlots]
        have hσ : σ.length = n := R.len.trans hn
        have slo : ∀ (i' : Nat) (s : Sl), (bagSlots n ib ab d).sl[i']? = some s → s = .un ∨ (i' = ib ∧ s = .rw (.ref ab)) := fun i' s e => by
          have e : ((List.replicate n Sl.un).set ib (.rw (.ref ab)))[i']? = some s := e
          rw [List.getElem?_set] at e
          by_cases z : ib = i'
          · rw [if_pos z] at e
            split at e
            · exact .inr ⟨z.symm, (Option.some.inj e).symm⟩
            · cases e
          · rw [if_neg z] at e
            obtain ⟨h1, h2⟩ := List.getElem?_eq_some_iff.mp e
            rw [List.getElem_replicate] at h2
            exact .inl h2.symm
        have hib : ib < σ1.length := by
          rw [p1, hσ, ← hN]
          exact (List.getElem?_eq_some_iff.mp hi).1
        have R2 : Rel ⟨bagR ab, Si, Hb, E⟩ Si Hb (σ1.set ib (some (.ref ab))) (bagSlots n ib ab d) := by
          refine ⟨p3, fun _ _ _ e => e, Same.refl _, fun _ _ e => .inl e, fun b m => ?_, by rw [List.length_set, p1, hσ, hlen], fun i' s e => ?_, fun i' j' s s' b e1 e2 o1 o2 _ _ => ?_, ⟨al, hg1, hg2⟩, fun b m => ?_⟩
          · have m : b = ab := m
            subst m
            exact q2
          · rcases slo i' s e with rfl | ⟨rfl, rfl⟩
            · trivial
            · show (σ1.set i' (some (V.ref ab)))[i']? = some (some (V.ref ab))
              rw [List.getElem?_set_self hib]
          · rcases slo i' s e1 with rfl | ⟨rfl, rfl⟩ <;> cases o1
          · have m : b = ab := m
            subst m
            show Hb b ≠ none
            rw [hg1]
            exact fun z => nomatch z
        refine (hb ab Si Hb).sd Si Hb _ _ _ R2 ?_
        rw [g1]
        intro S3 H3 σ3 s3 r3
        refine ⟨S3, ?_, p2.trans s3, r3.sub, fun b o e => ?_, fun b o e => ?_, ?_, fun j' ab' hj e => ?_⟩
        · rw [r3.len, g2, ← hσ]
        · by_cases z : b = ab
          · subst z
            rw [hH0] at e
            cases e
          · exact r3.ent b o z (p4 b o e)
        · rcases r3.new b o e with e | e
          · exact p5 b o e
          · right
            have e : Hb b = none := e
            cases q : H0 b with
            | none => rfl
            | some u =>
              rw [p4 b u q] at e
              cases e
        · refine r3.ent _ _ (fun z => ?_) p6
          have z : D' = ab := z
          subst z
          rw [p6] at hg1
          have e2 := HO.lst.inj (Option.some.inj hg1)
          have c1 : (abs.map V.ref)[1]? = some (V.int 0) := by
            rw [e2]
            rfl
          rw [List.getElem?_map] at c1
          obtain ⟨_, _, c2⟩ := Option.map_eq_some_iff.mp c1
          cases c2
        · have ne : ab' ≠ ab := fun z => by
            subst z
            obtain ⟨h1, h2⟩ := List.getElem?_eq_some_iff.mp ea
            obtain ⟨h3, h4⟩ := List.getElem?_eq_some_iff.mp e
            have := (List.getElem_inj (h₀ := h1) (h₁ := h3) bgs.nd).mp (h2.trans h4.symm)
            omega
          obtain ⟨r1, r2⟩ := p7 j' ab' (by omega) e
          obtain ⟨al', d', _, x2, _, _, _⟩ := bgs.at_ j' ab' e
          have x3 : Hb ab' = some (.lst [.ref al', .int 0]) := r1.trans x2
          refine ⟨(r3.ent _ _ ne x3).trans x3.symm |>.trans r1, ?_⟩
          cases q : S3 ab' with
          | none => rfl
          | some u =>
            rcases r3.new ab' u q with e | e
            · have e : Si ab' = some u := e
              rw [r2] at e
              cases e
            · have e : Hb ab' = none := e
              rw [x3] at e
              cases e
      · obtain ⟨Si, p1, p2, p3, p4, p5, p6, p7⟩ := pv
        refine q Si Ha σ1 (aft.s.trans p2) ⟨p3, fun b o _ e => p4 b o e, R.s0.trans (aft.s.trans p2), p5, fun b m => m.elim, ?_, fun i' s e => ?_, fun i' j' s s' b e1 e2 o1 o2 _ _ => ?_, p2.seq aft.ok, fun b m => m.elim⟩
        · show σ1.length = (List.replicate n Sl.un).length
          rw [p1, List.length_replicate]
          exact R.len.trans hn
        · obtain ⟨h1, h2⟩ := List.getElem?_eq_some_iff.mp e
          have h2 : (List.replicate n Sl.un)[i']'h1 = s := h2
          rw [List.getElem_replicate] at h2
          subst h2
          trivial
        · obtain ⟨h1, h2⟩ := List.getElem?_eq_some_iff.mp e1
          have h2 : (List.replicate n Sl.un)[i']'h1 = s := h2
          rw [List.getElem_replicate] at h2
          subst h2
          cases o1
    · rw [if_neg z] at q
      exact q.elim
  · exact q.elim
end
end Kn
set_option Elab.async false
set_option linter.all false
set_option maxRecDepth 100000
set_option maxHeartbeats 4000000
namespace Kn
open PySem PySem.Spec L2
open PyProof.Rows hiding St
def spLaw (K : PySem.W.Frag) : Sp := fun vs H Q _ => ∃ (p : Addr × List Int), vs = [.ref p.1] ∧ SqL K H p.1 (p.2.map V.int) ∧ p.2.length ≤ 63 ∧ ∀ H', Q (.bl true) H'
section
variable {P : Program} {w : World} {K : PySem.W.Frag} {mg : Str → Option Value} {base : Heap}
theorem fn_law {x qual : Str} {st : Stmt} {f : Addr} {fd : FuncData} {sc : Str} {N : List Str} {k : Nat} (Fu : Fun K x qual st f fd) (Sc : FnScope N [sc] (defScope st)) (g : ∀ p, DenS (scrR K p))
    (hbody : ∀ (p : Addr × List Int) (cdv : Value) (A : Around) (outer : List Env) (s : Shared) (S H : Hp) (E : XK), p.2.length ≤ 63 → Room k (A.deeper (envOfC qual (defScope st) s.heap.objs.size f cdv)) →
      ∃ t, DSs ⟨scrR K p, S, H, E⟩ (cxOf (L2N.CX P w) P w K mg base N qual (defScope st) f cdv A outer s H E) (defBody st) t (g p))
    (heq : ∀ p, Gd (g p (entry N.length [.ref p.1] [] ())) (.ok (.sh (.bool true)) ())) : FnOk P w K mg base (L2N.CX P w) (k + 1) f fd [sc] (spLaw K) := by
  refine okN Fu Sc (fun vs H Q E h => ?_) (fun cdv A outer s H vs Q E hr h => ?_)
  · obtain ⟨p, rfl, _⟩ := h
    rfl
  · obtain ⟨p, rfl, hq, hl, q⟩ := h
    obtain ⟨t, D⟩ := hbody p cdv A outer s H H E hl hr
    have hl : ([V.ref p.1] ++ [] : List V).length ≤ N.length := by
      have : (N.take 1).length = 1 := by rw [show N.take 1 = [sc] from Sc.pre]; rfl
      rw [List.length_take] at this
      show 1 ≤ N.length
      omega
    refine ⟨t, D.pe, run_body D (Same.refl _) (fun _ z => z.elim) hq (.nil) hl (heq p) ?_⟩
    intro v S' H' _ k
    cases k
    exact q H'
end
end Kn
set_option Elab.async false
set_option linter.all false
set_option maxRecDepth 100000
set_option maxHeartbeats 4000000
namespace Kn
open PySem PySem.Spec L2
open PyProof.Rows hiding St
/-! evaluation -/
@[simp] theorem ev_dVar {R : Rsc} (i : Nat) (τ : Tau (R)) : dVar i τ = (match τ.sl[i]? with
  | some (.sh d) => .ok (.sh d, τ)
  | some (.ar d) => if noList d then .ok (.sh d, τ) else .bad
  | some (.ow ds) => .ok (.sh (.list ds), τ.put i (.sh (.list ds)))
  | some (.rw v) => .ok (.rw v, τ)
  | _ => .bad) := rfl
@[simp] theorem ev_dBor {R : Rsc} (i : Nat) (τ : Tau (R)) : dBor i τ = (match τ.sl[i]? with
  | some (.sh d) => .ok (.sh d, τ)
  | some (.ar (.list ds)) => .ok (.bo ds, τ)
  | some (.ar d) => .ok (.sh d, τ)
  | some (.ow ds) => .ok (.bo ds, τ)
  | some (.od kvs) => .ok (.bd kvs, τ)
  | some (.rw v) => .ok (.rw v, τ)
  | _ => .bad) := rfl
@[simp] theorem ev_dTake {R : Rsc} (i : Nat) (τ : Tau (R)) : dTake i τ = (match τ.sl[i]? with
  | some (.sh d) => .ok (.sh d, τ)
  | some (.ar d) => if noList d then .ok (.sh d, τ) else .bad
  | some (.ow ds) => .ok (.fr ds, τ.put i .un)
  | some (.od kvs) => .ok (.fd kvs, τ.put i .un)
  | some (.rw v) => .ok (.rw v, τ)
  | _ => .bad) := rfl
@[simp] theorem ev_dC {R : Rsc} (d : PyData) (τ : Tau (R)) : dC d τ = (.ok (.sh d, τ)) := rfl
@[simp] theorem ev_dRaw {R : Rsc} (v : V) (τ : Tau (R)) : dRaw v τ = (.ok (.rw v, τ)) := rfl
@[simp] theorem ev_dOp {R : Rsc} (f : Val → Val → Option Val) (ga gb : Den R) (τ : Tau (R)) : dOp f ga gb τ = ((ga τ).bind fun p => (gb p.2).bind fun q => match f p.1 q.1 with
  | some c => .ok (c, q.2)
  | none => .bad) := rfl
@[simp] theorem ev_dUn {R : Rsc} (f : Val → Option Val) (ga : Den R) (τ : Tau (R)) : dUn f ga τ = ((ga τ).bind fun p => match f p.1 with
  | some c => .ok (c, p.2)
  | none => .bad) := rfl
@[simp] theorem ev_dTest {R : Rsc} (g : Den R) (τ : Tau (R)) : dTest g τ = ((g τ).bind fun p => match p.1 with
  | .sh (.bool b) => .ok (b, p.2)
  | _ => .bad) := rfl
@[simp] theorem ev_dChain {R : Rsc} (f f' : Val → Val → Option Val) (ga gb gc : Den R) (τ : Tau (R)) : dChain f f' ga gb gc τ = ((ga τ).bind fun p => (gb p.2).bind fun q => match f p.1 q.1 with
  | some (.sh (.bool true)) => (gc q.2).bind fun r => match f' q.1 r.1 with
    | some c => .ok (c, r.2)
    | none => .bad
  | some (.sh (.bool false)) => .ok (.sh (.bool false), q.2)
  | _ => .bad) := rfl
@[simp] theorem ev_dAnd {R : Rsc} (g h : DenT R) (τ : Tau (R)) : dAnd g h τ = ((g τ).bind fun p => if p.1 = true then h p.2 else .ok (false, p.2)) := rfl
@[simp] theorem ev_dOr {R : Rsc} (g h : DenT R) (τ : Tau (R)) : dOr g h τ = ((g τ).bind fun p => if p.1 = true then .ok (true, p.2) else h p.2) := rfl
@[simp] theorem ev_dNot {R : Rsc} (g : DenT R) (τ : Tau (R)) : dNot g τ = ((g τ).bind fun p => .ok (!p.1, p.2)) := rfl
@[simp] theorem ev_dBool {R : Rsc} (g : DenT R) (τ : Tau (R)) : dBool g τ = ((g τ).bind fun p => .ok (.sh (.bool p.1), p.2)) := rfl
@[simp] theorem ev_dAndV {R : Rsc} (g h : Den R) (τ : Tau (R)) : dAndV g h τ = ((g τ).bind fun p => match p.1 with
  | .sh (.bool true) => h p.2
  | .sh (.bool false) => .ok (.sh (.bool false), p.2)
  | _ => .bad) := rfl
@[simp] theorem ev_dOrV {R : Rsc} (g h : Den R) (τ : Tau (R)) : dOrV g h τ = ((g τ).bind fun p => match p.1 with
  | .sh (.bool false) => h p.2
  | .sh (.bool true) => .ok (.sh (.bool true), p.2)
  | _ => .bad) := rfl
@[simp] theorem ev_dNotV {R : Rsc} (g : Den R) (τ : Tau (R)) : dNotV g τ = ((g τ).bind fun p => match p.1 with
  | .sh (.bool b) => .ok (.sh (.bool (!b)), p.2)
  | _ => .bad) := rfl
@[simp] theorem ev_dIf {R : Rsc} (t : DenT R) (g h : Den R) (τ : Tau (R)) : dIf t g h τ = ((t τ).bind fun p => if p.1 = true then g p.2 else h p.2) := rfl
@[simp] theorem ev_dSh {R : Rsc} (g : Den R) (τ : Tau (R)) : dSh g τ = ((g τ).bind fun p => match p.1 with
  | .sh d => .ok (.sh d, p.2)
  | .fr ds => .ok (.sh (.list ds), p.2)
  | .rw v => .ok (.rw v, p.2)
  | _ => .bad) := rfl
@[simp] theorem ev_dNil {R : Rsc} (τ : Tau (R)) : dNil  τ = (.ok ([], τ)) := rfl
@[simp] theorem ev_dCons {R : Rsc} (g : Den R) (h : DenA R) (τ : Tau (R)) : dCons g h τ = ((g τ).bind fun p => (h p.2).bind fun q => .ok (p.1 :: q.1, q.2)) := rfl
@[simp] theorem ev_dTup {R : Rsc} (g : DenA R) (τ : Tau (R)) : dTup g τ = ((g τ).bind fun p => match allSh p.1 with
  | some ds => if ds.length ≤ sizeLine then .ok (.sh (.tuple ds), p.2) else .bad
  | none => .bad) := rfl
@[simp] theorem ev_dLst {R : Rsc} (g : DenA R) (τ : Tau (R)) : dLst g τ = ((g τ).bind fun p => match allSh p.1 with
  | some ds => if ds.length ≤ sizeLine then .ok (.fr ds, p.2) else .bad
  | none => .bad) := rfl
@[simp] theorem ev_dNoPart {R : Rsc} (τ : Tau (R)) : dNoPart  τ = (.ok (none, τ)) := rfl
@[simp] theorem ev_dPart {R : Rsc} (g : Den R) (τ : Tau (R)) : dPart g τ = ((g τ).bind fun p => match p.1.int with
  | some i => .ok (some i, p.2)
  | none => .bad) := rfl
@[simp] theorem ev_dSl {R : Rsc} (g : Den R) (l h : DenO R) (τ : Tau (R)) : dSl g l h τ = ((g τ).bind fun p => (l p.2).bind fun q => (h q.2).bind fun r => match fSl p.1 q.1 r.1 with
  | some c => .ok (c, r.2)
  | none => .bad) := rfl
@[simp] theorem ev_dCB {R : Rsc} (f : List Val → Option Val) (g : DenA R) (τ : Tau (R)) : dCB f g τ = ((g τ).bind fun p => match f p.1 with
  | some c => .ok (c, p.2)
  | none => .bad) := rfl
@[simp] theorem ev_dSeq {R : Rsc} (g : Den R) (τ : Tau (R)) : dSeq g τ = ((g τ).bind fun p => match p.1 with
  | .sh (.list ds) => .ok (ds, p.2)
  | .sh (.tuple ds) => .ok (ds, p.2)
  | _ => .bad) := rfl
@[simp] theorem ev_dSeqA {R : Rsc} (i : Nat) (τ : Tau (R)) : dSeqA i τ = (match τ.sl[i]? with
  | some (.ar (.list ds)) => .ok (ds, τ)
  | _ => .bad) := rfl
@[simp] theorem ev_dRng1 {R : Rsc} (g : DenA R) (τ : Tau (R)) : dRng1 g τ = ((g τ).bind fun p => match p.1 with
  | [.sh (.int j)] => guardR 0 j (.ok (rng 0 j.toNat, p.2))
  | _ => .bad) := rfl
@[simp] theorem ev_dRng2 {R : Rsc} (g : DenA R) (τ : Tau (R)) : dRng2 g τ = ((g τ).bind fun p => match p.1 with
  | [.sh (.int i), .sh (.int j)] => guardR i j (.ok (rng i (j - i).toNat, p.2))
  | _ => .bad) := rfl
@[simp] theorem ev_dYes {R : Rsc} (τ : Tau (R)) : dYes  τ = (.ok (true, τ)) := rfl
@[simp] theorem ev_dLc {R : Rsc} (gi : DenI R) (set : SetD R) (gt : DenT R) (ge : Den R) (vs : List Nat) (τ : Tau (R)) : dLc gi set gt ge vs τ = ((gi τ).bind fun p =>
  if p.1.length ≤ sizeLine then (lcGo set gt ge vs p.1 [] (p.2.wipe vs)).bind fun q => .ok (.fr q.1, q.2) else .bad) := rfl
@[simp] theorem ev_dNx {R : Rsc} (τ : Tau (R)) : dNx  τ = (.ok (.nx τ)) := rfl
@[simp] theorem ev_dThen {R : Rsc} (g h : DenS R) (τ : Tau (R)) : dThen g h τ = ((g τ).bind fun f => match f with
  | .nx τ' => h τ'
  | f => .ok f) := rfl
@[simp] theorem ev_dRet {R : Rsc} (g : Den R) (τ : Tau (R)) : dRet g τ = ((g τ).bind fun p => .ok (.rt p.1 p.2)) := rfl
@[simp] theorem ev_dRetN {R : Rsc} (τ : Tau (R)) : dRetN  τ = (.ok (.rt (.sh .none) τ)) := rfl
@[simp] theorem ev_dIfS {R : Rsc} (t : DenT R) (g h : DenS R) (τ : Tau (R)) : dIfS t g h τ = ((t τ).bind fun p => if p.1 = true then g p.2 else h p.2) := rfl
@[simp] theorem ev_dNever {R : Rsc} (τ : Tau (R)) : dNever  τ = (.bad) := rfl
@[simp] theorem ev_dExpr {R : Rsc} (g : Den R) (τ : Tau (R)) : dExpr g τ = ((g τ).bind fun p => .ok (.nx p.2)) := rfl
@[simp] theorem ev_dSet {R : Rsc} (i : Nat) (g : Den R) (τ : Tau (R)) : dSet i g τ = ((g τ).bind fun p => match p.1.slot with
  | some s => if i < p.2.sl.length then .ok (.nx (p.2.put i s)) else .bad
  | none => .bad) := rfl
@[simp] theorem ev_dPar {R : Rsc} (i j : Nat) (g h : Den R) (τ : Tau (R)) : dPar i j g h τ = ((g τ).bind fun p => (h p.2).bind fun q => match p.1.slot, q.1.slot with
  | some s, some s' => if i < q.2.sl.length ∧ j < q.2.sl.length then .ok (.nx ((q.2.put i s).put j s')) else .bad
  | _, _ => .bad) := rfl
@[simp] theorem ev_dUnp {R : Rsc} (set : SetD R) (g : Den R) (τ : Tau (R)) : dUnp set g τ = ((g τ).bind fun p => match p.1 with
  | .sh d => match set d p.2 with
    | some τ' => .ok (.nx τ')
    | none => .bad
  | _ => .bad) := rfl
@[simp] theorem ev_dApp {R : Rsc} (i : Nat) (g : Den R) (τ : Tau (R)) : dApp i g τ = (match τ.sl[i]? with
  | some (.ow _) => (g τ).bind fun p => match p.1, p.2.sl[i]? with
    | .sh d, some (.ow ds) => if ds.length < sizeLine then .ok (.nx (p.2.put i (.ow (ds ++ [d])))) else .bad
    | _, _ => .bad
  | _ => .bad) := rfl
@[simp] theorem ev_dSetIx {R : Rsc} (i : Nat) (g h : Den R) (τ : Tau (R)) : dSetIx i g h τ = ((g τ).bind fun p => match p.1, p.2.sl[i]? with
  | .sh d, some (.ow _) => (h p.2).bind fun q => match q.1.int, q.2.sl[i]? with
    | some k, some (.ow ds) => match ixN ds.length k with
      | some j => .ok (.nx (q.2.put i (.ow (ds.set j d))))
      | none => .bad
    | _, _ => .bad
  | _, _ => .bad) := rfl
@[simp] theorem ev_dFor {R : Rsc} (gi : DenI R) (set : SetD R) (gb : DenS R) (τ : Tau (R)) : dFor gi set gb τ = ((gi τ).bind fun p => forGo set gb p.1 p.2) := rfl
@[simp] theorem ev_dCall {R : Rsc} (F : PFn) (g : DenA R) (τ : Tau (R)) : dCall F g τ = ((g τ).bind fun p => match allData p.1 with
  | some ds => match F ds with
    | some (.ok val _) => if val.out = true then .ok (val, p.2) else .bad
    | _ => .bad
  | none => .bad) := rfl
@[simp] theorem ev_dCallX {R : Rsc} (F : PFn) (g : DenA R) (τ : Tau (R)) : dCallX F g τ = ((g τ).bind fun p => match allData p.1 with
  | some ds => match F ds with
    | some (.ok val _) => if val.out = true then .ok (val, p.2) else .bad
    | some (.err C f _) => .exc ⟨C, f, p.2.γ⟩
    | _ => .bad
  | none => .bad) := rfl
@[simp] theorem ev_dIndex {R : Rsc} (g : Den R) (h : DenA R) (τ : Tau (R)) : dIndex g h τ = ((g τ).bind fun p => match p.1.seq with
  | some ds => (h p.2).bind fun q => match q.1 with
    | [.sh d] => match fIndex d ds with
      | some j => .ok (.sh (.int j), q.2)
      | none => .bad
    | _ => .bad
  | none => .bad) := rfl
@[simp] theorem ev_dLenSet {R : Rsc} (g : Den R) (τ : Tau (R)) : dLenSet g τ = ((g τ).bind fun p => match p.1.tup.bind asInts with
  | some ns => if ns.length ≤ 4000 then .ok (.sh (.int (dedup ns).length), p.2) else .bad
  | none => .bad) := rfl
@[simp] theorem ev_dEnum {R : Rsc} (h : DenA R) (τ : Tau (R)) : dEnum h τ = ((h τ).bind fun q => match q.1 with
  | [.sh (.list ds)] => .ok (enumD 0 ds, q.2)
  | [.sh (.tuple ds)] => .ok (enumD 0 ds, q.2)
  | _ => .bad) := rfl
@[simp] theorem ev_dIns {R : Rsc} (i : Nat) (g h : Den R) (τ : Tau (R)) : dIns i g h τ = (match τ.sl[i]? with
  | some (.ow _) => (g τ).bind fun p => match p.1.int with
    | some n => (h p.2).bind fun q => match q.1, q.2.sl[i]? with
      | .sh d, some (.ow ds) => if ds.length < sizeLine ∧ 0 ≤ n ∧ n < 2 ^ 63 then .ok (.nx (q.2.put i (.ow (ds.take n.toNat ++ [d] ++ ds.drop n.toNat)))) else .bad
      | _, _ => .bad
    | none => .bad
  | _ => .bad) := rfl
@[simp] theorem ev_dDAug {R : Rsc} (i : Nat) (g h : Den R) (τ : Tau (R)) : dDAug i g h τ = (match τ.sl[i]? with
  | some (.od _) => (g τ).bind fun p => match p.1.int, p.2.sl[i]? with
    | some k, some (.od l) => match valI l k with
      | some (.int x) => (h p.2).bind fun q => match q.1.int, q.2.sl[i]? with
        | some y, some (.od l2) => if l2.length < sizeLine then .ok (.nx (q.2.put i (.od (putI l2 k (.int (x + y)))))) else .bad
        | _, _ => .bad
      | _ => .bad
    | _, _ => .bad
  | _ => .bad) := rfl
@[simp] theorem ev_dSortedItems {R : Rsc} (g : Den R) (τ : Tau (R)) : dSortedItems g τ = ((g τ).bind fun p => match p.1.dic.bind asIP with
  | some ps => .ok (.fr (prD (psort ps)), p.2)
  | none => .bad) := rfl
@[simp] theorem ev_dCallR {ι : Type} (Rs : ι → Rsc) (ad : ι → Addr) (i : ι) (F : RFn Rs) (g : DenA (Rs i)) (τ : Tau (Rs i)) : dCallR Rs ad i F g τ = ((g τ).bind fun p => match p.1 with
  | .rw v :: rest => if v = .ref (ad i) then match allData rest with
    | some ds => match F i p.2.γ ds with
      | some (.ok val γ') => if val.out = true then .ok (val, ⟨p.2.sl, γ'⟩) else .bad
      | _ => .bad
    | none => .bad
    else .bad
  | _ => .bad) := rfl

@[simp] theorem ev_slot0 (d : PyData) : Val.slot (.sh d) = some (.sh d) := rfl
@[simp] theorem ev_slot1 (ds : List PyData) : Val.slot (.fr ds) = some (.ow ds) := rfl
@[simp] theorem ev_slot2 (kv : List (Int × PyData)) : Val.slot (.fd kv) = some (.od kv) := rfl
@[simp] theorem ev_slot3 (v : V) : Val.slot (.rw v) = some (.rw v) := rfl
@[simp] theorem ev_slot4 (ds : List PyData) : Val.slot (.bo ds) = none := rfl
@[simp] theorem ev_slot5 (kv : List (Int × PyData)) : Val.slot (.bd kv) = none := rfl
@[simp] theorem ev_data0 (d : PyData) : Val.data (.sh d) = some d := rfl
@[simp] theorem ev_data1 (ds : List PyData) : Val.data (.fr ds) = some (.list ds) := rfl
@[simp] theorem ev_data2 (ds : List PyData) : Val.data (.bo ds) = some (.list ds) := rfl
@[simp] theorem ev_data3 (v : V) : Val.data (.rw v) = none := rfl
@[simp] theorem ev_data4 (kv : List (Int × PyData)) : Val.data (.fd kv) = none := rfl
@[simp] theorem ev_data5 (kv : List (Int × PyData)) : Val.data (.bd kv) = none := rfl
@[simp] theorem ev_seq0 (ds : List PyData) : Val.seq (.sh (.list ds)) = some ds := rfl
@[simp] theorem ev_seq1 (ds : List PyData) : Val.seq (.sh (.tuple ds)) = some ds := rfl
@[simp] theorem ev_seq2 (ds : List PyData) : Val.seq (.fr ds) = some ds := rfl
@[simp] theorem ev_seq3 (ds : List PyData) : Val.seq (.bo ds) = some ds := rfl
@[simp] theorem ev_seq4 (i : Int) : Val.seq (.sh (.int i)) = none := rfl
@[simp] theorem ev_seq5 (i : Bool) : Val.seq (.sh (.bool i)) = none := rfl
@[simp] theorem ev_seq6 (i : Str) : Val.seq (.sh (.str i)) = none := rfl
@[simp] theorem ev_seq7  : Val.seq (.sh .none) = none := rfl
@[simp] theorem ev_seq8 (v : V) : Val.seq (.rw v) = none := rfl
@[simp] theorem ev_lst0 (ds : List PyData) : Val.lst (.sh (.list ds)) = some ds := rfl
@[simp] theorem ev_lst1 (ds : List PyData) : Val.lst (.sh (.tuple ds)) = none := rfl
@[simp] theorem ev_lst2 (ds : List PyData) : Val.lst (.fr ds) = some ds := rfl
@[simp] theorem ev_lst3 (ds : List PyData) : Val.lst (.bo ds) = some ds := rfl
@[simp] theorem ev_lst4 (i : Int) : Val.lst (.sh (.int i)) = none := rfl
@[simp] theorem ev_lst5 (i : Bool) : Val.lst (.sh (.bool i)) = none := rfl
@[simp] theorem ev_lst6 (i : Str) : Val.lst (.sh (.str i)) = none := rfl
@[simp] theorem ev_lst7  : Val.lst (.sh .none) = none := rfl
@[simp] theorem ev_lst8 (v : V) : Val.lst (.rw v) = none := rfl
@[simp] theorem ev_tup0 (ds : List PyData) : Val.tup (.sh (.list ds)) = none := rfl
@[simp] theorem ev_tup1 (ds : List PyData) : Val.tup (.sh (.tuple ds)) = some ds := rfl
@[simp] theorem ev_tup2 (ds : List PyData) : Val.tup (.fr ds) = none := rfl
@[simp] theorem ev_tup3 (ds : List PyData) : Val.tup (.bo ds) = none := rfl
@[simp] theorem ev_tup4 (i : Int) : Val.tup (.sh (.int i)) = none := rfl
@[simp] theorem ev_tup5 (i : Bool) : Val.tup (.sh (.bool i)) = none := rfl
@[simp] theorem ev_tup6 (i : Str) : Val.tup (.sh (.str i)) = none := rfl
@[simp] theorem ev_tup7  : Val.tup (.sh .none) = none := rfl
@[simp] theorem ev_tup8 (v : V) : Val.tup (.rw v) = none := rfl
@[simp] theorem ev_int0 (i : Int) : Val.int (.sh (.int i)) = some i := rfl
@[simp] theorem ev_int1 (ds : List PyData) : Val.int (.sh (.list ds)) = none := rfl
@[simp] theorem ev_int2 (ds : List PyData) : Val.int (.sh (.tuple ds)) = none := rfl
@[simp] theorem ev_int3 (ds : List PyData) : Val.int (.fr ds) = none := rfl
@[simp] theorem ev_int4 (ds : List PyData) : Val.int (.bo ds) = none := rfl
@[simp] theorem ev_int6 (b : Bool) : Val.int (.sh (.bool b)) = none := rfl
@[simp] theorem ev_int7  : Val.int (.sh .none) = none := rfl
@[simp] theorem ev_int8 (b : Str) : Val.int (.sh (.str b)) = none := rfl
@[simp] theorem ev_out0 (d : PyData) : Val.out (.sh d) = true := rfl
@[simp] theorem ev_out1 (ds : List PyData) : Val.out (.fr ds) = true := rfl
@[simp] theorem ev_out2 (kv : List (Int × PyData)) : Val.out (.fd kv) = true := rfl
@[simp] theorem ev_out3 (v : V) : Val.out (.rw v) = true := rfl
@[simp] theorem ev_out4 (ds : List PyData) : Val.out (.bo ds) = false := rfl
@[simp] theorem ev_out5 (kv : List (Int × PyData)) : Val.out (.bd kv) = false := rfl
@[simp] theorem ev_dic0 (kv : List (Int × PyData)) : Val.dic (.fd kv) = some kv := rfl
@[simp] theorem ev_dic1 (kv : List (Int × PyData)) : Val.dic (.bd kv) = some kv := rfl
@[simp] theorem ev_allSh0  : allSh [] = some [] := rfl
@[simp] theorem ev_allSh1 (d : PyData) (r : List Val) : allSh (.sh d :: r) = (allSh r).map (d :: ·) := rfl
@[simp] theorem ev_allData0  : allData [] = some [] := rfl
@[simp] theorem ev_allData1 (v : Val) (r : List Val) : allData (v :: r) = v.data.bind fun d => (allData r).map (d :: ·) := by
  rw [allData]
  cases v.data <;> rfl
@[simp] theorem ev_put {R : Rsc} (sl : List Sl) (γ : R.Γ) (i : Nat) (s : Sl) : (Tau.mk sl γ : Tau R).put i s = ⟨sl.set i s, γ⟩ := rfl
@[simp] theorem ev_wipe {R : Rsc} (sl : List Sl) (γ : R.Γ) (vs : List Nat) : (Tau.mk sl γ : Tau R).wipe vs = ⟨wipeS sl vs, γ⟩ := rfl
@[simp] theorem ev_wipeS0 (sl : List Sl) : wipeS sl [] = sl := rfl
@[simp] theorem ev_wipeS1 (sl : List Sl) (v : Nat) (vs : List Nat) : wipeS sl (v :: vs) = (wipeS sl vs).set v .un := rfl
@[simp] theorem ev_setN {R : Rsc} (i : Nat) (d : PyData) (sl : List Sl) (γ : R.Γ) : setN i d (Tau.mk sl γ : Tau R) = if i < sl.length then some ⟨sl.set i (.sh d), γ⟩ else none := rfl
@[simp] theorem ev_setNil {R : Rsc} (τ : Tau R) : setNil [] τ = some τ := rfl
@[simp] theorem ev_setCons {R : Rsc} (f : SetD R) (g : List PyData → Tau R → Option (Tau R)) (d : PyData) (ds : List PyData) (τ : Tau R) : setCons f g (d :: ds) τ = (f d τ).bind (g ds) := rfl
@[simp] theorem ev_setTup {R : Rsc} (g : List PyData → Tau R → Option (Tau R)) (ds : List PyData) (τ : Tau R) : setTup g (.tuple ds) τ = g ds τ := rfl
@[simp] theorem ev_fAddI (i j : Int) : fAddI (.sh (.int i)) (.sh (.int j)) = some (.sh (.int (i + j))) := rfl
@[simp] theorem ev_fAdd (i j : Int) : fAdd (.sh (.int i)) (.sh (.int j)) = some (.sh (.int (i + j))) := rfl
@[simp] theorem ev_fSubI (i j : Int) : fSubI (.sh (.int i)) (.sh (.int j)) = some (.sh (.int (i - j))) := rfl
@[simp] theorem ev_fLt (i j : Int) : fLt (.sh (.int i)) (.sh (.int j)) = some (.sh (.bool (decide (i < j)))) := rfl
@[simp] theorem ev_fLtA (i j : Int) : fLtA (.sh (.int i)) (.sh (.int j)) = some (.sh (.bool (decide (i < j)))) := rfl
@[simp] theorem ev_fLe (i j : Int) : fLe (.sh (.int i)) (.sh (.int j)) = some (.sh (.bool (decide (i ≤ j)))) := rfl
@[simp] theorem ev_fGt (i j : Int) : fGt (.sh (.int i)) (.sh (.int j)) = some (.sh (.bool (decide (j < i)))) := rfl
@[simp] theorem ev_fGe (i j : Int) : fGe (.sh (.int i)) (.sh (.int j)) = some (.sh (.bool (decide (j ≤ i)))) := rfl
@[simp] theorem ev_fDivI (i j : Int) : fDivI (.sh (.int i)) (.sh (.int j)) = if 0 < j ∧ j < 1073741824 then some (.sh (.int (i / j))) else none := by
  show Option.map Val.sh (if CDiv i j then _ else _) = _
  by_cases h : CDiv i j
  · rw [if_pos h, if_pos (show 0 < j ∧ j < 1073741824 from h)]
    rfl
  · rw [if_neg h, if_neg (show ¬ (0 < j ∧ j < 1073741824) from h)]
    rfl
@[simp] theorem ev_fModI (i j : Int) : fModI (.sh (.int i)) (.sh (.int j)) = if 0 < j then some (.sh (.int (i % j))) else none := by
  show Option.map Val.sh (if 0 < j then _ else _) = _
  by_cases h : 0 < j
  · rw [if_pos h, if_pos h]
    rfl
  · rw [if_neg h, if_neg h]
    rfl
theorem fMul_ok {i j : Int} (h : CMul i j) : fMul (.sh (.int i)) (.sh (.int j)) = some (.sh (.int (i * j))) := by
  show (Option.map _ (if CMul i j then _ else _)).or _ = _
  rw [if_pos h]
  rfl
theorem fPow_ok {i j : Int} (h : CPow i j) : fPowI (.sh (.int i)) (.sh (.int j)) = some (.sh (.int (i ^ j.toNat))) := by
  show Option.map _ (if CPow i j then _ else _) = _
  rw [if_pos h]
  rfl
@[simp] theorem ev_fLen (a : Val) : fLen [a] = a.seq.map fun ds => .sh (.int ds.length) := rfl
@[simp] theorem ev_fSum (a : Val) : fSum [a] = (a.lst.bind asInts).map fun ns => .sh (.int ns.sum) := rfl
@[simp] theorem ev_fSortedA (a : Val) : fSortedA [a] = (a.seq.bind asInts).map fun ns => .fr (nsD (isort ns)) := rfl
@[simp] theorem ev_fTuple (a : Val) : fTuple [a] = a.seq.map fun ds => .sh (.tuple ds) := rfl
@[simp] theorem ev_fAll (a : Val) : fAll [a] = (a.lst.bind asBools).map fun bs => .sh (.bool (bs.all id)) := rfl
@[simp] theorem ev_fMax2 (i j : Int) : fMax2 [.sh (.int i), .sh (.int j)] = some (.sh (.int (if j > i then j else i))) := rfl
@[simp] theorem ev_fMin2 (i j : Int) : fMin2 [.sh (.int i), .sh (.int j)] = some (.sh (.int (if j < i then j else i))) := rfl
@[simp] theorem ev_fInt0 (i : Int) : fInt [.sh (.int i)] = some (.sh (.int i)) := rfl
@[simp] theorem ev_fInt1 (b : Bool) : fInt [.sh (.bool b)] = some (.sh (.int (if b then 1 else 0))) := rfl
@[simp] theorem ev_fDict (a : Val) : fDict [a] = (a.lst.bind asPairs).map fun l => .fd (mergeI [] l) := rfl
@[simp] theorem ev_asInts (ns : List Int) : asInts (nsD ns) = some ns := asInts_ints ns
@[simp] theorem ev_fIsi (T : String) (a : Val) (T' : String) : fIsi T [a, .rw (.ty T')] = if T' = T ∧ tyOk T = true then match a.data with
    | some (.dict _) => none
    | some d => some (.sh (.bool (isTy T d)))
    | none => none
    else none := rfl
@[simp] theorem ev_isTy0 (T : String) (i : Int) : isTy T (.int i) = (T == "int") := rfl
@[simp] theorem ev_isTy1 (T : String) (i : Bool) : isTy T (.bool i) = (T == "bool" || T == "int") := rfl
@[simp] theorem ev_isTy2 (T : String) (i : Str) : isTy T (.str i) = (T == "str") := rfl
@[simp] theorem ev_isTy3 (T : String) (i : List PyData) : isTy T (.list i) = (T == "list") := rfl
@[simp] theorem ev_isTy4 (T : String) (i : List PyData) : isTy T (.tuple i) = (T == "tuple") := rfl
@[simp] theorem ev_isTy5 (T : String)  : isTy T (.none) = (false) := rfl
@[simp] theorem ev_noList0 (i : Int) : noList (.int i) = true := rfl
@[simp] theorem ev_noList1 (i : Bool) : noList (.bool i) = true := rfl
@[simp] theorem ev_noList2 (i : Str) : noList (.str i) = true := rfl
@[simp] theorem ev_noList3 (i : List PyData) : noList (.list i) = false := rfl
@[simp] theorem ev_noList4 (i : List PyData) : noList (.tuple i) = true := rfl
@[simp] theorem ev_noList5  : noList (.none) = true := rfl
@[simp] theorem ev_fIx (a : Val) (i : Int) : fIx a (.sh (.int i)) = a.seq.bind fun ds => (atI ds i).map .sh := by
  unfold fIx
  cases a.seq <;> rfl
@[simp] theorem ev_toRes0 {R : Rsc} (val : Val) (τ : Tau R) : toRes (.ok (.rt val τ) : Out (Exn R) (Fl R)) = some (.ok val τ.γ) := rfl
@[simp] theorem ev_toRes1 {R : Rsc} (τ : Tau R) : toRes (.ok (.nx τ) : Out (Exn R) (Fl R)) = some (.ok (.sh .none) τ.γ) := rfl
@[simp] theorem ev_noneData  : tyOk "int" = true := by decide +kernel
@[simp] theorem ev_tyOk1  : tyOk "bool" = true := by decide +kernel
@[simp] theorem ev_tyOk2  : tyOk "str" = true := by decide +kernel
@[simp] theorem ev_tyOk3  : tyOk "list" = true := by decide +kernel
@[simp] theorem ev_tyOk4  : tyOk "tuple" = true := by decide +kernel
theorem Out.bind_cong {ε α β : Type} {x x' : Out ε α} (f : α → Out ε β) (h : x = x') : Out.bind x f = Out.bind x' f := by rw [h]
def SH (k : Nat) (d : PyData) : Prop := d.canLay0 = true ∧ d.depth ≤ k
theorem SH.int {i : Int} : SH 1 (.int i) := ⟨rfl, by simp [PyData.depth]⟩
theorem SH.bool {i : Bool} : SH 1 (.bool i) := ⟨rfl, by simp [PyData.depth]⟩
theorem SH.none : SH 1 .none := ⟨rfl, by simp [PyData.depth]⟩
theorem SH.str {x : Str} (h : PyData.strOk x = true := by decide +kernel) : SH 1 (.str x) := ⟨h, by simp [PyData.depth]⟩
theorem SH.mono {k m : Nat} {d : PyData} (h : SH k d) (l : k ≤ m) : SH m d := ⟨h.1, Nat.le_trans h.2 l⟩
theorem SH.all {k : Nat} : ∀ {ds : List PyData}, (∀ d ∈ ds, SH k d) → PyData.canLayAll0 ds = true ∧ PyData.depthAll ds ≤ k
  | [], _ => ⟨rfl, by simp [PyData.depthAll]⟩
  | d :: ds, h => by
    have ih := SH.all (k := k) (ds := ds) fun d m => h d (List.mem_cons_of_mem _ m)
    have h1 := h d List.mem_cons_self
    simp only [PyData.canLayAll0, PyData.depthAll, h1.1, ih.1, Bool.and_self, true_and]
    have a1 := h1.2
    have a2 := ih.2
    omega
theorem SH.list {k : Nat} {ds : List PyData} (h : ∀ d ∈ ds, SH k d) : SH (k + 1) (.list ds) := by
  obtain ⟨h1, h2⟩ := SH.all h
  refine ⟨h1, ?_⟩
  simp only [PyData.depth]
  omega
theorem SH.tup {k : Nat} {ds : List PyData} (h : ∀ d ∈ ds, SH k d) : SH (k + 1) (.tuple ds) := by
  obtain ⟨h1, h2⟩ := SH.all h
  refine ⟨h1, ?_⟩
  simp only [PyData.depth]
  omega
theorem SH.nsD {ns : List Int} : ∀ d ∈ nsD ns, SH 1 d := fun d m => by
  obtain ⟨i, _, rfl⟩ := List.mem_map.mp m
  exact .int
theorem SH.ok {k : Nat} {d : PyData} (h : SH k d) (hk : k ≤ 64 := by decide) : SeqAt.shaped d = true := by
  unfold SeqAt.shaped
  rw [h.1]
  exact decide_eq_true (Nat.le_trans h.2 hk)
theorem fEq_ok {a b : Val} {d e : PyData} {k m : Nat} (ha : a.data = some d) (hb : b.data = some e) (h : SH k d) (h' : SH m e) (hk : k ≤ 64 := by decide) (hm : m ≤ 64 := by decide) : fEq a b = some (.sh (.bool (PyData.eqv d e))) := by
  unfold fEq
  rw [ha, hb]
  exact if_pos ⟨h.ok hk, h'.ok hm⟩
theorem fNe_ok {a b : Val} {d e : PyData} {k m : Nat} (ha : a.data = some d) (hb : b.data = some e) (h : SH k d) (h' : SH m e) (hk : k ≤ 64 := by decide) (hm : m ≤ 64 := by decide) : fNe a b = some (.sh (.bool (!PyData.eqv d e))) := by
  unfold fNe
  rw [ha, hb]
  exact if_pos ⟨h.ok hk, h'.ok hm⟩
theorem eqv_self {k : Nat} {d : PyData} (h : SH k d) : PyData.eqv d d = true := SeqAt.eqv_refl d h.1
@[simp] theorem eqv_int (i j : Int) : PyData.eqv (.int i) (.int j) = decide (i = j) := by
  simp only [PyData.eqv]
  rfl
theorem eqvAll_ns : ∀ a b : List Int, PyData.eqvAll (nsD a) (nsD b) = decide (a = b)
  | [], [] => by simp [PyData.eqvAll]
  | [], _ :: _ => by simp [PyData.eqvAll]
  | _ :: _, [] => by simp [PyData.eqvAll]
  | x :: a, y :: b => by
    simp only [List.map_cons, PyData.eqvAll, eqv_int, eqvAll_ns a b]
    by_cases h : x = y <;> by_cases h2 : a = b <;> simp [h, h2]
theorem eqv_listI (a b : List Int) : PyData.eqv (.list (nsD a)) (.list (nsD b)) = decide (a = b) := by
  rw [PyData.eqv]
  exact eqvAll_ns a b
theorem eqv_tupI (a b : List Int) : PyData.eqv (.tuple (nsD a)) (.tuple (nsD b)) = decide (a = b) := by
  rw [PyData.eqv]
  exact eqvAll_ns a b
@[simp] theorem fEq_int (i j : Int) : fEq (.sh (.int i)) (.sh (.int j)) = some (.sh (.bool (decide (i = j)))) := by rw [fEq_ok rfl rfl .int .int, eqv_int]
@[simp] theorem fNe_int (i j : Int) : fNe (.sh (.int i)) (.sh (.int j)) = some (.sh (.bool (!decide (i = j)))) := by rw [fNe_ok rfl rfl .int .int, eqv_int]
/-- where an int stands -/
theorem any_eqv (i : Int) : ∀ ns : List Int, ((nsD ns).any fun z => PyData.eqv z (.int i)) = decide (i ∈ ns)
  | [] => rfl
  | n :: ns => by
    show (PyData.eqv (.int n) (.int i) || (nsD ns).any fun z => PyData.eqv z (.int i)) = _
    rw [any_eqv i ns, eqv_int]
    by_cases h : n = i
    · simp [h]
    · by_cases h2 : i ∈ ns <;> simp [h, h2, Ne.symm h]
theorem flat_ns (ns : List Int) : (nsD ns).all flatD = true := by
  rw [List.all_eq_true]
  intro d m
  obtain ⟨i, _, rfl⟩ := List.mem_map.mp m
  rfl
theorem fInA_ok {a : Val} {ns : List Int} {i : Int} (h : a.seq = some (nsD ns)) : fInA (.sh (.int i)) a = some (.sh (.bool (decide (i ∈ ns)))) := by
  unfold fInA fIn
  rw [h]
  show Option.or (if flatD (PyData.int i) = true ∧ _ then _ else _) _ = _
  rw [if_pos ⟨rfl, flat_ns ns⟩]
  show some (Val.sh (.bool (if false = true then _ else _))) = _
  rw [if_neg (by decide), any_eqv]
theorem fNotInA_ok {a : Val} {ns : List Int} {i : Int} (h : a.seq = some (nsD ns)) : fNotInA (.sh (.int i)) a = some (.sh (.bool (!decide (i ∈ ns)))) := by
  unfold fNotInA fIn
  rw [h]
  show Option.or (if flatD (PyData.int i) = true ∧ _ then _ else _) _ = _
  rw [if_pos ⟨rfl, flat_ns ns⟩]
  show some (Val.sh (.bool (if true = true then _ else _))) = _
  rw [if_pos rfl, any_eqv]
/-- the first place of an int -/
def idx (i : Int) : List Int → Nat
  | [] => 0
  | n :: ns => if n = i then 0 else idx i ns + 1
theorem findD_ns {i : Int} : ∀ {ns : List Int}, i ∈ ns → findD (.int i) (nsD ns) = some (idx i ns)
  | n :: ns, h => by
    show (if PyData.eqv (.int n) (.int i) = true then some 0 else (findD (.int i) (nsD ns)).map (· + 1)) = _
    unfold idx
    rw [eqv_int]
    by_cases e : n = i
    · rw [if_pos (decide_eq_true e), if_pos e]
    · rw [if_neg (by simp [e]), if_neg e]
      have : i ∈ ns := by
        rcases List.mem_cons.mp h with h | h
        · exact absurd h.symm e
        · exact h
      rw [findD_ns this]
      rfl
theorem fIndex_ns {i : Int} {ns : List Int} (h : i ∈ ns) : fIndex (.int i) (nsD ns) = some (idx i ns) := by
  unfold fIndex
  rw [if_pos ⟨rfl, flat_ns ns⟩]
  exact findD_ns h
theorem idx_lt {i : Int} : ∀ {ns : List Int}, i ∈ ns → idx i ns < ns.length
  | n :: ns, h => by
    unfold idx
    by_cases e : n = i
    · rw [if_pos e]
      simp
    · rw [if_neg e]
      have : i ∈ ns := by
        rcases List.mem_cons.mp h with h | h
        · exact absurd h.symm e
        · exact h
      have := idx_lt this
      simp
      omega
theorem idx_get {i : Int} : ∀ {ns : List Int}, i ∈ ns → ns[idx i ns]? = some i
  | n :: ns, h => by
    unfold idx
    by_cases e : n = i
    · rw [if_pos e, e]
      rfl
    · rw [if_neg e]
      have : i ∈ ns := by
        rcases List.mem_cons.mp h with h | h
        · exact absurd h.symm e
        · exact h
      simpa using idx_get this
@[simp] theorem atI_0 (d : PyData) (ds : List PyData) : atI (d :: ds) 0 = some d := atI_nat (j := 0) rfl
@[simp] theorem atI_1 (d e : PyData) (ds : List PyData) : atI (d :: e :: ds) 1 = some e := atI_nat (j := 1) rfl
@[simp] theorem atI_2 (d e f : PyData) (ds : List PyData) : atI (d :: e :: f :: ds) 2 = some f := atI_nat (j := 2) rfl
@[simp] theorem sz_0 : 0 ≤ sizeLine := by decide
@[simp] theorem sz_1 : 1 ≤ sizeLine := by decide
@[simp] theorem sz_2 : 2 ≤ sizeLine := by decide
@[simp] theorem sz_3 : 3 ≤ sizeLine := by decide
@[simp] theorem sz_4 : 4 ≤ sizeLine := by decide
@[simp] theorem sz_5 : 5 ≤ sizeLine := by decide
@[simp] theorem sz_6 : 6 ≤ sizeLine := by decide
@[simp] theorem sz_7 : 7 ≤ sizeLine := by decide
@[simp] theorem sz_8 : 8 ≤ sizeLine := by decide
theorem atI_ns {ns : List Int} {k : Nat} {i : Int} (h : ns[k]? = some i) : atI (nsD ns) (k : Int) = some (.int i) := by
  refine atI_nat ?_
  rw [List.getElem?_map, h]
  rfl
theorem atI_of {ds : List PyData} {k : Int} {d : PyData} (h0 : 0 ≤ k) (h : ds[k.toNat]? = some d) : atI ds k = some d := by
  have : ((k.toNat : Nat) : Int) = k := Int.toNat_of_nonneg h0
  rw [← this]
  exact atI_nat h
section
variable {R : Rsc}
theorem lcGo_eq {set : SetD R} {gt : DenT R} {ge : Den R} {vs : List Nat} {τ : Tau R} (f : PyData → Option PyData) : ∀ (ds acc : List PyData),
    (∀ d ∈ ds, ∃ τ1, set d τ = some τ1 ∧ ((∃ τ2, gt τ1 = .ok (false, τ2) ∧ τ2.wipe vs = τ ∧ f d = none) ∨ ∃ τ2 y τ3, gt τ1 = .ok (true, τ2) ∧ ge τ2 = .ok (.sh y, τ3) ∧ τ3.wipe vs = τ ∧ f d = some y)) →
    lcGo set gt ge vs ds acc τ = .ok (acc ++ ds.filterMap f, τ)
  | [], acc, _ => by simp [lcGo]
  | d :: ds, acc, h => by
    obtain ⟨τ1, e1, e⟩ := h d List.mem_cons_self
    have ih := fun acc => lcGo_eq f ds acc fun d m => h d (List.mem_cons_of_mem _ m)
    unfold lcGo
    rw [e1]
    rcases e with ⟨τ2, e2, e3, e4⟩ | ⟨τ2, y, τ3, e2, e3, e4, e5⟩
    · simp [e2, e3, e4, ih]
    · simp [e2, e3, e4, e5, ih]
theorem lcGo_map {set : SetD R} {ge : Den R} {vs : List Nat} {τ : Tau R} (f : PyData → PyData) (ds : List PyData)
    (h : ∀ d ∈ ds, ∃ τ1 τ3, set d τ = some τ1 ∧ ge τ1 = .ok (.sh (f d), τ3) ∧ τ3.wipe vs = τ) :
    lcGo set dYes ge vs ds [] τ = .ok (ds.map f, τ) := by
  have := lcGo_eq (R := R) (set := set) (gt := dYes) (ge := ge) (vs := vs) (τ := τ) (fun d => some (f d)) ds [] fun d m => by
    obtain ⟨τ1, τ3, e1, e2, e3⟩ := h d m
    exact ⟨τ1, e1, .inr ⟨τ1, f d, τ3, rfl, e2, e3, rfl⟩⟩
  rw [this]
  simp
theorem lcGo_pure {set : SetD R} {ge : Den R} {vs : List Nat} {τ : Tau R} (f : PyData → PyData) (ds : List PyData)
    (h : ∀ d ∈ ds, ∃ τ1, set d τ = some τ1 ∧ ge τ1 = .ok (.sh (f d), τ1) ∧ τ1.wipe vs = τ) :
    lcGo set dYes ge vs ds [] τ = .ok (ds.map f, τ) := lcGo_map f ds fun d m => by
  obtain ⟨τ1, e1, e2, e3⟩ := h d m
  exact ⟨τ1, τ1, e1, e2, e3⟩
theorem lcGo_filt {set : SetD R} {gt : DenT R} {ge : Den R} {vs : List Nat} {τ : Tau R} (p : PyData → Bool) (ds : List PyData)
    (h : ∀ d ∈ ds, ∃ τ1, set d τ = some τ1 ∧ gt τ1 = .ok (p d, τ1) ∧ ge τ1 = .ok (.sh d, τ1) ∧ τ1.wipe vs = τ) :
    lcGo set gt ge vs ds [] τ = .ok (ds.filter p, τ) := by
  have := lcGo_eq (R := R) (set := set) (gt := gt) (ge := ge) (vs := vs) (τ := τ) (fun d => if p d = true then some d else none) ds [] fun d m => by
    obtain ⟨τ1, e1, e2, e3, e4⟩ := h d m
    refine ⟨τ1, e1, ?_⟩
    cases q : p d with
    | false =>
      rw [q] at e2
      exact .inl ⟨τ1, e2, e4, by simp⟩
    | true =>
      rw [q] at e2
      exact .inr ⟨τ1, d, τ1, e2, e3, e4, by simp⟩
  rw [this, List.nil_append, ← List.filterMap_eq_filter]
  rfl
/-- a walk that goes on to its end: Pv by what is walked so far -/
theorem forGo_inv {set : SetD R} {gb : DenS R} (Pv : List PyData → Tau R → Prop) : ∀ (ds pre : List PyData) (τ : Tau R), Pv pre τ →
    (∀ pre d post τ, pre ++ d :: post = pre ++ d :: post → d ∈ ds → Pv pre τ → ∃ τ1 τ2, set d τ = some τ1 ∧ (gb τ1 = .ok (.nx τ2) ∨ gb τ1 = .ok (.ct τ2)) ∧ Pv (pre ++ [d]) τ2) → ∃ τ', forGo set gb ds τ = .ok (.nx τ') ∧ Pv (pre ++ ds) τ'
  | [], pre, τ, h, _ => ⟨τ, rfl, by rw [List.append_nil]; exact h⟩
  | d :: ds, pre, τ, h, k => by
    obtain ⟨τ1, τ2, e1, e2, e3⟩ := k pre d [] τ rfl List.mem_cons_self h
    obtain ⟨τ', f1, f2⟩ := forGo_inv Pv ds (pre ++ [d]) τ2 e3 fun pre d post τ e m => k pre d post τ e (List.mem_cons_of_mem _ m)
    refine ⟨τ', ?_, by rw [List.append_assoc] at f2; exact f2⟩
    unfold forGo
    rw [e1]
    rcases e2 with e2 | e2 <;> simp [e2, f1]
/-- the same by the turn's number -/
theorem forGo_at {set : SetD R} {gb : DenS R} {ds : List PyData} {τ : Tau R} (Pv : Nat → Tau R → Prop) (h0 : Pv 0 τ)
    (k : ∀ i d τ, ds[i]? = some d → Pv i τ → ∃ τ1 τ2, set d τ = some τ1 ∧ (gb τ1 = .ok (.nx τ2) ∨ gb τ1 = .ok (.ct τ2)) ∧ Pv (i + 1) τ2) : ∃ τ', forGo set gb ds τ = .ok (.nx τ') ∧ Pv ds.length τ' := by
  suffices H : ∀ (n i : Nat) (es : List PyData) (τ : Tau R), es = ds.drop i → es.length = n → i + n = ds.length → Pv i τ → ∃ τ', forGo set gb es τ = .ok (.nx τ') ∧ Pv ds.length τ' from H ds.length 0 ds τ (by simp) rfl (by omega) h0
  intro n
  induction n with
  | zero =>
    intro i es τ e l t h
    have : es = [] := List.eq_nil_of_length_eq_zero l
    subst this
    have : i = ds.length := by omega
    subst this
    exact ⟨τ, rfl, h⟩
  | succ n ih =>
    intro i es τ e l t h
    have hi : i < ds.length := by omega
    rw [List.drop_eq_getElem_cons hi] at e
    subst e
    obtain ⟨τ1, τ2, e1, e2, e3⟩ := k i ds[i] τ (List.getElem?_eq_getElem hi) h
    obtain ⟨τ', f1, f2⟩ := ih (i + 1) _ τ2 rfl (by simp at l; simp; omega) (by omega) e3
    refine ⟨τ', ?_, f2⟩
    unfold forGo
    rw [e1]
    rcases e2 with e2 | e2 <;> simp [e2, f1]
/-- a fold: st tells the slots by what is folded -/
theorem forGo_fold {α : Type} {set : SetD R} {gb : DenS R} (st : α → Tau R → Prop) (f : α → PyData → α) (ok : PyData → Prop) (k : ∀ a d τ, ok d → st a τ → ∃ τ1 τ2, set d τ = some τ1 ∧ (gb τ1 = .ok (.nx τ2) ∨ gb τ1 = .ok (.ct τ2)) ∧ st (f a d) τ2) : ∀ (ds : List PyData) (a : α) (τ : Tau R), (∀ d ∈ ds, ok d) → st a τ →
    ∃ τ', forGo set gb ds τ = .ok (.nx τ') ∧ st (ds.foldl f a) τ'
  | [], a, τ, _, h => ⟨τ, rfl, h⟩
  | d :: ds, a, τ, ho, h => by
    obtain ⟨τ1, τ2, e1, e2, e3⟩ := k a d τ (ho d List.mem_cons_self) h
    obtain ⟨τ', f1, f2⟩ := forGo_fold st f ok k ds _ τ2 (fun d m => ho d (List.mem_cons_of_mem _ m)) e3
    refine ⟨τ', ?_, f2⟩
    unfold forGo
    rw [e1]
    rcases e2 with e2 | e2 <;> simp [e2, f1]
theorem rng2_ev {g : DenA R} {τ τ' : Tau R} {i j : Int} (e : g τ = .ok ([.sh (.int i), .sh (.int j)], τ')) (hi : inR i) (hj : inR j) : dRng2 g τ = .ok (rng i (j - i).toNat, τ') := by
  unfold dRng2
  rw [e]
  exact guardR_ok hi hj
theorem rng1_ev {g : DenA R} {τ τ' : Tau R} {j : Int} (e : g τ = .ok ([.sh (.int j)], τ')) (hj : inR j) : dRng1 g τ = .ok (rng 0 j.toNat, τ') := by
  unfold dRng1
  rw [e]
  exact guardR_ok (inR_of (by decide) (by decide)) hj
theorem thenE {g h : DenS R} {τ τ1 : Tau R} {Pf : Out (Exn R) (Fl R) → Prop} (e : g τ = .ok (.nx τ1)) (k : Pf (h τ1)) : Pf (dThen g h τ) := by
  have : dThen g h τ = h τ1 := by simp [dThen, e]
  rw [this]
  exact k
theorem then_eq {g h : DenS R} {τ τ1 : Tau R} (e : g τ = .ok (.nx τ1)) : dThen g h τ = h τ1 := by simp [dThen, e]
theorem for_eq {gi : DenI R} {set : SetD R} {gb : DenS R} {τ τ1 : Tau R} {ds : List PyData} (e : gi τ = .ok (ds, τ1)) : dFor gi set gb τ = forGo set gb ds τ1 := by simp [dFor, e]
theorem lc_eq {gi : DenI R} {set : SetD R} {gt : DenT R} {ge : Den R} {vs : List Nat} {τ τ1 : Tau R} {ds ys : List PyData} {τ2 : Tau R} (e : gi τ = .ok (ds, τ1)) (hz : ds.length ≤ sizeLine) (h : lcGo set gt ge vs ds [] (τ1.wipe vs) = .ok (ys, τ2)) : dLc gi set gt ge vs τ = .ok (.fr ys, τ2) := by
  simp [dLc, e, hz, h]
end
theorem runF_eq {n np : Nat} {g : DenS R0} {ds : List PyData} {r : Res Unit} (hl : ds.length = np) (h : toRes (g (entry n [] ds ())) = some r) : runF n np g ds = some r := by
  unfold runF
  rw [if_pos hl]
  exact h
theorem runR_eq {ι : Type} {Rs : ι → Rsc} {ad : ι → Addr} {n np : Nat} {g : ∀ i, DenS (Rs i)} {i : ι} {γ : (Rs i).Γ} {ds : List PyData} {r : Res (Rs i).Γ} (hl : ds.length + 1 = np) (h : toRes (g i (entry n [.ref (ad i)] ds γ)) = some r) : runR Rs ad n np g i γ ds = some r := by
  unfold runR
  rw [if_pos hl]
  exact h
end Kn
set_option Elab.async false
set_option linter.all false
set_option maxRecDepth 100000
set_option maxHeartbeats 4000000
namespace L2
open PySem PySem.Spec PyProof.Rows PySem.SeqAt
/-! ### xs[::-1] of a list or of a tuple -/
section
variable {prog : Program} {w : World} {A : Around} {E : Value → Shared → Prop} {s : Shared}
theorem rev_places (n : Nat) : Builtin.Slice.slicePlaces ((n : Int) - 1) (-1) (-1) = n := by
  unfold Builtin.Slice.slicePlaces
  rw [if_neg (show ¬ ((-1 : Int) > 0) by decide)]
  by_cases h : (n : Int) - 1 > -1
  · rw [if_pos h, show (-(-1) : Int) = 1 by decide, Int.ediv_one]
    omega
  · rw [if_neg h]
    omega
theorem rev_applied {sl : Addr} {vs : Value} {n : Nat} {Q : Int × Int × Nat → Shared → Prop} (hs : s.heap.IsSliceOf sl .none .none vs) (ps : IsPart vs (some (-1))) (h : Q ((n : Int) - 1, -1, n) s) :
    wpAny (model prog w) A (Builtin.Slice.sliceApplied (.ref sl) (pure (n : Int))) Q E s := by
  obtain ⟨ob, h1, _, h2⟩ := id hs
  unfold Builtin.Slice.sliceApplied Builtin.Slice.sliceFields
  refine wpAny_bind (wpAny_bind (wpAny_field h1 h2 (x := .none) rfl (wpAny_bind (wpAny_field h1 h2 (x := .none) rfl (wpAny_bind (wpAny_field h1 h2 (x := vs) rfl (wpAny_pure ?_)))))))
  refine wpAny_bind (HT.slicePart_ ps ?_)
  show wpAny _ _ (if ((-1 : Int) == 0) = true then _ else _) _ _ s
  rw [if_neg (by decide)]
  refine wpAny_bind (slicePart_none (wpAny_bind (slicePart_none (wpAny_bind (wpAny_pure ?_)))))
  show wpAny _ _ (pure ((n : Int) - 1, (-1 : Int), Builtin.Slice.slicePlaces ((n : Int) - 1) (-1) (-1))) _ _ s
  rw [rev_places]
  exact wpAny_pure h
theorem fm_some {α β : Type} {f : α → Option β} {g : α → β} : ∀ {l : List α}, (∀ x ∈ l, f x = some (g x)) → l.filterMap f = l.map g
  | [], _ => rfl
  | x :: l, h => by
    rw [List.filterMap_cons, h x List.mem_cons_self, List.map_cons, fm_some fun y m => h y (List.mem_cons_of_mem _ m)]
theorem rev_pick (xs : Array Value) : ((List.range xs.size).filterMap fun (k : Nat) => xs[((xs.size : Int) - 1 + (k : Int) * (-1)).toNat]?).toArray = xs.toList.reverse.toArray := by
  congr 1
  rw [fm_some (g := fun k => xs.toList.getD (xs.size - 1 - k) .none) fun k hk => by
    have hk := List.mem_range.mp hk
    have e1 : ((xs.size : Int) - 1 + (k : Int) * (-1)).toNat = xs.size - 1 - k := by omega
    rw [e1, List.getD_eq_getElem?_getD, Array.getElem?_eq_getElem (by omega), List.getElem?_eq_getElem (by rw [Array.length_toList]; omega)]
    simp]
  apply List.ext_getElem?
  intro i
  rw [List.getElem?_map]
  by_cases h : i < xs.size
  · rw [List.getElem?_range h, List.getElem?_reverse (by rw [Array.length_toList]; exact h), Array.length_toList]
    simp only [Option.map_some, List.getD_eq_getElem?_getD]
    rw [List.getElem?_eq_getElem (by rw [Array.length_toList]; omega)]
    rfl
  · rw [List.getElem?_eq_none (by rw [List.length_range]; omega), List.getElem?_eq_none (by rw [List.length_reverse, Array.length_toList]; omega)]
    rfl
theorem rev_item {t sl : Addr} {items : Array Value} {vs : Value} {Q : Value → Shared → Prop} (ht : IsTup s.heap t items) (hs : s.heap.IsSliceOf sl .none .none vs) (ps : IsPart vs (some (-1)))
    (h : Q (.ref s.heap.objs.size) { s with heap := s.heap.push { cls := .type "tuple", data := .seq items.toList.reverse.toArray } }) (hz : items.size ≤ sizeLine) : wpAny (model prog w) A (getItem (.ref t) (.ref sl)) Q E s := by
  have big : sizeOk (.seq items.toList.reverse.toArray) := by
    show items.toList.reverse.toArray.size ≤ sizeLine
    rw [List.size_toArray, List.length_reverse, Array.length_toList]
    exact hz
  obtain ⟨ob, h1, h2, h3⟩ := id hs
  have isl : s.TypeIs (.ref sl) "slice" := ⟨ob, h1, h2⟩
  unfold getItem
  with_reducible refine wpAny_holding ?_
  refine wpAny_bind (wpAny_sequenceKey ht.typeIs (by decide) (wpAny_bind (wpAny_callSpecial?_slot (name := Str.ofString "__getitem__") ht.typeIs PyProof.Rows.slot_tuple_getitem (wpAny_call_entry PyProof.Rows.slot_tuple_getitem ht.typeIs entry_tuple_getitem ?_ (args_tuple_getitem _ _)))))
  refine wpAny_bind (m := Builtin.Tuple.tupleItemsOf (.ref t)) (tupleItemsOf_ ht (wpAny_bind (wpAny_typeOf isl ?_)))
  rw [if_pos (by decide)]
  refine wpAny_bind (rev_applied hs ps ?_)
  have hno : ¬ (((items.size : Int) - 1 == 0 && (-1 : Int) == 1 && items.size == items.size) = true) := by simp
  show wpAny _ _ (if ((items.size : Int) - 1 == 0 && (-1 : Int) == 1 && items.size == items.size) = true then _ else _) _ _ s
  rw [if_neg hno, rev_pick]
  first
    | exact wpAny_bind (m := Builtin.Tuple.tupleExact _) (wpAny_newObj_type (wpAny_pure ⟨_, rfl, wpAny_pure h⟩) big)
    | exact wpAny_bind (wpAny_bind (m := Builtin.Tuple.tupleExact _) (wpAny_newObj_type (wpAny_pure (wpAny_pure ⟨_, rfl, wpAny_pure h⟩)) big))
    | exact wpAny_bind (wpAny_bind (m := Builtin.Tuple.tupleExact _) (wpAny_newObj_type (wpAny_pure ⟨_, rfl, wpAny_pure h⟩) big))
    | exact wpAny_bind (m := Builtin.Tuple.tupleExact _) (wpAny_newObj_type (wpAny_bind (wpAny_pure (wpAny_pure ⟨_, rfl, wpAny_pure h⟩))) big)
end
end L2
namespace Kn
open PySem PySem.Spec L2 PySem.SeqAt
open PyProof.Rows hiding St
def tRevA (K : PySem.W.Frag) (te : TE) : TE := fun σ H Q => te σ H fun x H1 => ∃ a xs, x = .ref a ∧ ((SqL K H1 a xs ∧ ∀ p, H1 p = none → Q (.ref p) (upd H1 p (.lst xs.reverse))) ∨ (SqT K H1 a xs ∧ Nw H1 xs.reverse Q))
theorem pe_revA {X : Cx} {e : Expr} {te : TE} {k : Nat} {p1 p2 p3 pos : Pos} (he : PE X e te) : PE X (.Subscript e (.Slice none none (some (.UnaryOp .USub (.Constant (.int 1) k p1) p2)) p3) pos) (tRevA X.K te) := by
  refine ⟨fun pins s σ H Q I h => Subscript_ (thn (he.run pins s σ H _ I h) fun v s1 ⟨x, H1, I1, r1, a, xs, ex, hx⟩ => ?_)⟩
  subst ex
  cases r1
  have step : PO X (some (.UnaryOp .USub (.Constant (.int 1) k p1) p2)) (tPart (tUn (rU fun i => .int (-i)) (tC (.int 1)))) := po_some (pe_un un_neg pe_int)
  refine wpAny_Slice (thn (po_none.run pins s1 σ H1 (fun o H2 => o = none ∧ H2 = H1) I1 ⟨rfl, rfl⟩) fun vl s2 ⟨l, H2, I2, pl, el⟩ => ?_)
  obtain ⟨rfl, rfl⟩ := el
  refine thn (po_none.run pins s2 σ H2 (fun o H3 => o = none ∧ H3 = H2) I2 ⟨rfl, rfl⟩) fun vu s3 ⟨u, H3, I3, pu, eu⟩ => ?_
  obtain ⟨rfl, rfl⟩ := eu
  refine thn (step.run pins s3 σ H3 (fun o H4 => o = some (-1) ∧ H4 = H3) I3 ⟨1, rfl, -1, rfl, rfl, rfl⟩) fun vs s4 ⟨o, H4, I4, ps, eo⟩ => ?_
  obtain ⟨rfl, rfl⟩ := eo
  obtain ⟨S4, hS4⟩ : ∃ S4 : Shared, S4 = { s4 with heap := s4.heap.push { cls := .type "slice", data := .fields #[vl, vu, vs] } } := ⟨_, rfl⟩
  have I5 : Inv X pins σ H4 S4 := by
    rw [hS4]
    exact I4.kept (t' := s4.toks) fun b ob q => Heap.get?_push_of_some _ q
  have isl : S4.heap.IsSliceOf s4.heap.objs.size vl vu vs := by
    rw [hS4]
    exact Heap.IsSliceOf.new _ vl vu vs
  show wpAny (model X.prog X.w) X.A (subscriptTail e (.Slice none none (some (.UnaryOp .USub (.Constant (.int 1) k p1) p2)) p3) (.ref a) (.ref s4.heap.objs.size)) (EP X pins σ Q) X.xe { s4 with heap := s4.heap.push { cls := .type "slice", data := .fields #[vl, vu, vs] } }
  rw [← hS4]
  rcases hx with ⟨hx, q⟩ | ⟨hx, q⟩
  · obtain ⟨its, r, ht, hz⟩ := I5.list hx
    have hlen := r.length
    refine tail_any (ops := [.ref a, .ref s4.heap.objs.size]) ht.isList.typeIs (PySem.slot_list_getitem.lookup) (wpAny_getItem_list_slice ht.isList isl pl pu ps (by decide) ?_ (by rw [List.size_toArray]; omega)) (by with_unfolding_all rfl)
    rw [PySem.W.krv_pick]
    exact ⟨.ref _, _, I5.laid (t' := S4.toks) (o := .lst xs.reverse) (fun b ob q => Heap.get?_push_of_some _ q) (Nat.le_refl _) ⟨by rw [List.length_reverse]; exact hz, _, 0, r.reverse, Heap.get?_push_size _ rfl⟩, rfl, q _ (I5.hok.fresh (Nat.le_refl _))⟩
  · obtain ⟨its, r, ht, hz⟩ := I5.tuple hx
    have hlen := r.length
    have ev : vl = .none ∧ vu = .none := by
      cases pl
      cases pu
      exact ⟨rfl, rfl⟩
    obtain ⟨rfl, rfl⟩ := ev
    refine tail_any (ops := [.ref a, .ref s4.heap.objs.size]) ht.typeIs PyProof.Rows.slot_tuple_getitem.lookup (rev_item ht isl ps ?_ (by rw [List.size_toArray]; omega)) (by with_unfolding_all rfl)
    exact laidF (H := H4) I5 r.reverse (by rw [List.length_reverse]; exact hz) (fun b ob q => Heap.get?_push_of_some _ q) (Nat.le_refl _) (Heap.get?_push_size _ rfl) q
end Kn
namespace Kn
open PySem PySem.Spec L2
open PyProof.Rows hiding St
section
variable {X : Cx} {B : Bs} {a b c e e2 tg : Expr} {es rest : List Expr} {ta tb tc te : TE} {ga gb gc ge : Den B.R} {pos : Pos} {k : Nat} {t : TA} {g : DenA B.R} {K : PySem.W.Frag}
def fRev : Val → Option Val := fun a => match a.tup, a.lst with
  | some ds, _ => some (.sh (.tuple ds.reverse))
  | none, some ds => some (.fr ds.reverse)
  | none, none => none
theorem be_rev {k : Nat} {p1 p2 p3 pos : Pos} (he : DE B X e te ge) (hK : X.K = K := by rfl) : DE B X (.Subscript e (.Slice none none (some (.UnaryOp .USub (.Constant (.int 1) k p1) p2)) p3) pos) (tRevA K te) (dUn fRev ge) := by
  subst hK
  refine ⟨pe_revA he.pe, fun S H σ τ Q R q => he.sd S H σ τ _ R (Sat.step (f := fun p => match fRev p.1 with
    | some c => .ok (c, p.2)
    | none => .bad) q fun x τ1 v S1 H1 _ G1 R1 o1 _ h1 => ?_)⟩
  unfold fRev at h1
  cases e1 : x.tup with
  | some ds =>
    simp only [e1] at h1
    obtain ⟨p, ob, ys, rfl, hh, hn, ks⟩ := VOk.tup o1 e1
    refine ⟨p, ys, rfl, .inr ⟨sqtF (R1.sub _ _ hh), fun t o ht ho => ?_⟩⟩
    obtain ⟨g2, r2, k2⟩ := lay_tup R1 ht ho ks.reverse
    exact h1 _ _ _ g2 r2 k2 frS
  | none =>
    cases e2 : x.lst with
    | none => simp only [e1, e2] at h1; exact h1.elim
    | some ds =>
      simp only [e1, e2] at h1
      obtain ⟨p, ys, rfl, hh, _, ks⟩ := VOk.lst R1 o1 e2
      refine ⟨p, ys, rfl, .inl ⟨SqL.of hh, fun t ht => ?_⟩⟩
      obtain ⟨g2, r2, k2, f2⟩ := lay_lst R1 ht ks.reverse
      exact h1 _ _ _ g2 r2 k2 f2
def dZip {R : Rsc} (h : DenA R) : DenI R := fun τ => (h τ).bind fun q => match q.1 with
  | [.sh (.list xs), .sh (.list ys)] => .ok (List.zipWith (fun a b => .tuple [a, b]) xs ys, q.2)
  | _ => .bad
@[simp] theorem ev_dZip {R : Rsc} (h : DenA R) (τ : Tau R) : dZip h τ = ((h τ).bind fun q => match q.1 with
  | [.sh (.list xs), .sh (.list ys)] => .ok (List.zipWith (fun a b => .tuple [a, b]) xs ys, q.2)
  | _ => .bad) := rfl
theorem two_lst {S H : Hp} {σ : St} {sl : List Sl} {ws : List V} {ds es : List PyData} (o : Paired (fun v val => VOk B S H σ sl v val) ws [.sh (.list ds), .sh (.list es)]) : ∃ a xs b ys, ws = [.ref a, .ref b] ∧ S a = some (.lst xs) ∧ DqA S xs ds ∧ S b = some (.lst ys) ∧ DqA S ys es := by
  cases o with
  | cons k r =>
    cases r with
    | cons k2 r2 =>
      cases r2
      cases k with
      | lst h q =>
        cases k2 with
        | lst h' q' => exact ⟨_, _, _, _, rfl, h, q, h', q'⟩
theorem bi_zip {p tpos : Pos} {elts : List Expr} {kk : Nat} (hg : Gl X "zip") (hm : X.mg "zip" = none) (ha : DA B X [e, e2] t g)
    (hs : starEach [e, e2] X.env = (false, eval e X.env) :: starEach [e2] X.env := by rfl) (hpl : (backTo pos (starEach [e2] X.env)).any (·.1) = false := by rfl) (hK : X.K = K := by rfl) :
    DI B true X (.Tuple elts kk tpos) (.Call (.Name "zip" p) [e, e2] [] pos) (RZ.iZipA K t) (dZip g) := by
  subst hK
  refine ⟨RZ.pi_zipA hg hm ha.pe hs hpl, fun S H σ τ R' R q => ha.sd S H σ τ _ R (Sat.step (f := fun q => match q.1 with
    | [.sh (.list xs), .sh (.list ys)] => .ok (List.zipWith (fun a b => PyData.tuple [a, b]) xs ys, q.2)
    | _ => .bad) q fun vals τ1 ws S1 H1 _ G1 R1 o1 _ h1 => ?_)⟩
  split at h1
  · rename_i ds es e1
    simp only at e1
    subst e1
    obtain ⟨a, xs, b, ys, rfl, h2, k2, h3, k3⟩ := two_lst o1
    have hl : (List.zipWith (fun a b => PyData.tuple [a, b]) ds es).length = min xs.length ys.length := by rw [List.length_zipWith, k2.len, k3.len]
    refine ⟨a, b, xs, ys, rfl, .inl ⟨SqL.of (R1.sub _ _ h2), SqL.of (R1.sub _ _ h3), h1 _ S1 H1 .refl R1 ⟨fun H => SqL X.K H a xs ∧ SqL X.K H b ys, _, walk_zip hl, fun S2 H2 s1 s2 _ => ⟨SqL.of (s2 _ _ (s1 _ _ h2)), SqL.of (s2 _ _ (s1 _ _ h3))⟩, fun i Ha x Hb d S2 e s1 s2 _ y => ?_⟩ trivial⟩⟩
    rw [List.getElem?_zipWith] at e
    cases q1 : ds[i]? with
    | none => rw [q1] at e; cases e
    | some d1 =>
      cases q2 : es[i]? with
      | none => rw [q1, q2] at e; cases e
      | some d2 =>
        rw [q1, q2] at e
        refine yok_pair y (d1 := d1) (d2 := d2) (fun w ew => ?_) (fun w ew => ?_) (Option.some.inj e).symm
        · obtain ⟨d', e3, q⟩ := k2.get ew
          rw [q1] at e3
          cases e3
          exact q.mono s1
        · obtain ⟨d', e3, q⟩ := k3.get ew
          rw [q2] at e3
          cases e3
          exact q.mono s1
  · exact h1.elim
@[simp] theorem ev_fRev0 (ds : List PyData) : fRev (.sh (.tuple ds)) = some (.sh (.tuple ds.reverse)) := rfl
@[simp] theorem ev_fRev1 (ds : List PyData) : fRev (.sh (.list ds)) = some (.fr ds.reverse) := rfl
@[simp] theorem ev_fRev2 (ds : List PyData) : fRev (.fr ds) = some (.fr ds.reverse) := rfl
@[simp] theorem ev_fRev3 (ds : List PyData) : fRev (.bo ds) = some (.fr ds.reverse) := rfl
end
end Kn
set_option Elab.async false
set_option linter.all false
set_option maxRecDepth 100000
set_option maxHeartbeats 4000000
namespace Kn
open PySem PySem.Spec L2
open PyProof.Rows hiding St
/-! ### xs[i] += e, xs an own list -/
def rGetL (K : PySem.W.Frag) : V → V → Hp → VK → Prop := fun x y H Q => ∃ p xs k v, x = .ref p ∧ y = .int k ∧ 0 ≤ k ∧ k < 2 ^ 62 ∧ SqL K H p xs ∧ xs[k.toNat]? = some v ∧ Q v H
theorem pget_list {X : Cx} : PGet X (rGetL X.K) := by
  intro pins s σ H x y v u Q I rx ry h
  obtain ⟨p, xs, k, z, rfl, rfl, h0, h1, hq, he, q⟩ := h
  cases rx
  obtain ⟨t, rfl⟩ := ry
  obtain ⟨its, r, pl, hz⟩ := I.list hq
  obtain ⟨w, ew, rw'⟩ := r.get he
  exact wpAny_getItem_list pl.isList h0 (by omega) (by simpa using ew) ⟨z, H, I, rw', q⟩
def dAugIx {R : Rsc} (i : Nat) (g h : Den R) : DenS R := fun τ => match τ.sl[i]? with
  | some (.ow _) => (g τ).bind fun p => match p.1.int, p.2.sl[i]? with
    | some k, some (.ow ds) => if 0 ≤ k ∧ k < 2 ^ 62 then match ds[k.toNat]? with
      | some (.int x) => (h p.2).bind fun q => match q.1.int, q.2.sl[i]? with
        | some y, some (.ow es) => if k.toNat < es.length then .ok (.nx (q.2.put i (.ow (es.set k.toNat (.int (x + y)))))) else .bad
        | _, _ => .bad
      | _ => .bad
      else .bad
    | _, _ => .bad
  | _ => .bad
@[simp] theorem ev_dAugIx {R : Rsc} (i : Nat) (g h : Den R) (τ : Tau R) : dAugIx i g h τ = (match τ.sl[i]? with
  | some (.ow _) => (g τ).bind fun p => match p.1.int, p.2.sl[i]? with
    | some k, some (.ow ds) => if 0 ≤ k ∧ k < 2 ^ 62 then match ds[k.toNat]? with
      | some (.int x) => (h p.2).bind fun q => match q.1.int, q.2.sl[i]? with
        | some y, some (.ow es) => if k.toNat < es.length then .ok (.nx (q.2.put i (.ow (es.set k.toNat (.int (x + y)))))) else .bad
        | _, _ => .bad
      | _ => .bad
      else .bad
    | _, _ => .bad
  | _ => .bad) := rfl
section
variable {X : Cx} {B : Bs} {a b c e e2 tg : Expr} {es rest : List Expr} {ta tb tc te : TE} {ga gb gc ge : Den B.R} {pos p : Pos} {k : Nat} {t : TA} {g : DenA B.R} {K : PySem.W.Frag}
theorem ds_augix (i : Nat) {x : Str} {p2 : Pos} (hb : DE B X b tb gb) (he : DE B X e te ge) (hN : X.N[i]? = some x := by rfl) (hv : Vis X.env.scope x := by first | exact Or.inl rfl | exact Or.inr (Or.inl rfl) | exact Or.inr (Or.inr rfl))
    (ha : ∀ ov iv new, augStore b ov iv new = (do holding [new, ov, iv] (setItem ov iv new); release [new, ov, iv] []; pure .next) := by intros; rfl) (hd : (x == ("__debug__" : Str)) = false := by decide) (hcd : (x == ("__classdict__" : Str)) = false := by decide) :
    DS B X (.AugAssign (.Subscript (.Name x p) b p2) .Add e pos) (tAugS (tVar i) tb te (rGetL X.K) (ipI fun i j => i + j) rSetL) (dAugIx i gb ge) := by
  refine ⟨ps_augS (pe_var hN hv hd hcd) hb.pe pget_list he.pe ip_add set_list ha, fun S H σ τ D R q => ?_⟩
  unfold dAugIx at q
  split at q
  · rename_i l0 e0
    obtain ⟨a', vs, ea, h1, k1, _⟩ := R.setOw e0
    refine ⟨.ref a', ea, hb.sd S H σ τ _ R (sat_e q fun val τ1 v S1 H1 _ G1 R1 o1 _ q => ?_)⟩
    simp only at q
    cases en : val.int with
    | none => simp only [en] at q; exact q.elim
    | some k =>
      cases e1 : τ1.sl[i]? with
      | none => simp only [en, e1] at q; exact q.elim
      | some s1 =>
        cases s1 with
        | ow ds =>
          simp only [en, e1] at q
          by_cases hk : 0 ≤ k ∧ k < 2 ^ 62
          · rw [if_pos hk] at q
            obtain ⟨rfl, _⟩ := VOk.int o1 en
            obtain ⟨a2, ws, ea2, h2, k2, _⟩ := R1.setOw e1
            rw [ea] at ea2
            cases ea2
            cases ed : ds[k.toNat]? with
            | none => simp only [ed] at q; exact q.elim
            | some dx =>
              cases dx with
              | int x0 =>
                simp only [ed] at q
                obtain ⟨vx, ex, kx⟩ := k2.get' ed
                cases kx
                refine ⟨a', ws, k, .int x0, rfl, rfl, hk.1, hk.2, SqL.of h2, ex, he.sd S1 H1 σ τ1 _ R1 (sat_e q fun val2 τ2 w S2 H2 _ G2 R2 o2 _ q => ?_)⟩
                simp only at q
                cases ey : val2.int with
                | none => simp only [ey] at q; exact q.elim
                | some y0 =>
                  cases e4 : τ2.sl[i]? with
                  | none => simp only [ey, e4] at q; exact q.elim
                  | some s2 =>
                    cases s2 with
                    | ow es =>
                      simp only [ey, e4] at q
                      obtain ⟨rfl, _⟩ := VOk.int o2 ey
                      obtain ⟨a3, zs, ea3, h3, k3, up⟩ := R2.setOw e4
                      rw [ea] at ea3
                      cases ea3
                      by_cases hl : k.toNat < es.length
                      · rw [if_pos hl] at q
                        refine ⟨x0, y0, rfl, rfl, a', zs, k, k.toNat, rfl, rfl, h3, ?_, q S2 _ σ (Same.refl _) (up _ _ (DqA.set (Dq.int _) _ k3))⟩
                        rw [k3.len]
                        unfold ixN
                        rw [if_pos hk.1, if_pos (by omega)]
                      · rw [if_neg hl] at q
                        exact q.elim
                    | _ => simp only [ey, e4] at q; exact q.elim
              | _ => simp only [ed] at q; exact q.elim
          · rw [if_neg hk] at q
            exact q.elim
        | _ => simp only [en, e1] at q; exact q.elim
  · exact q.elim
/-! ### zip of two names, lists that may be the caller's -/
def lstS : Sl → Option (List PyData)
  | .sh (.list ds) => some ds
  | .ar (.list ds) => some ds
  | _ => none
def dZipN {R : Rsc} (i j : Nat) : DenI R := fun τ => match τ.sl[i]?.bind lstS, τ.sl[j]?.bind lstS with
  | some xs, some ys => .ok (List.zipWith (fun a b => .tuple [a, b]) xs ys, τ)
  | _, _ => .bad
@[simp] theorem ev_dZipN {R : Rsc} (i j : Nat) (τ : Tau R) : dZipN i j τ = (match τ.sl[i]?.bind lstS, τ.sl[j]?.bind lstS with
  | some xs, some ys => .ok (List.zipWith (fun a b => .tuple [a, b]) xs ys, τ)
  | _, _ => .bad) := rfl
@[simp] theorem ev_lstS0 (ds : List PyData) : lstS (.sh (.list ds)) = some ds := rfl
@[simp] theorem ev_lstS1 (ds : List PyData) : lstS (.ar (.list ds)) = some ds := rfl
/-- a list that stands still through a walk -/
theorem lst_still {S H : Hp} {σ : St} {τ : Tau B.R} (R : Rel B S H σ τ) {i : Nat} {ds : List PyData} (e : τ.sl[i]?.bind lstS = some ds) : ∃ p vs, σ[i]? = some (some (.ref p)) ∧ H p = some (.lst vs) ∧ DqA S vs ds ∧ ∀ S2 H2, Same S S2 → Same S2 H2 → (∀ b o, ¬ B.R.M b → B.H0 b = some o → H2 b = some o) → H2 p = some (.lst vs) := by
  obtain ⟨s, e1, e2⟩ := Option.bind_eq_some_iff.mp e
  have k := R.sl i s e1
  have fromS : ∀ {v : V}, σ[i]? = some (some v) → Dq S v (.list ds) → ∃ p vs, σ[i]? = some (some (.ref p)) ∧ H p = some (.lst vs) ∧ DqA S vs ds ∧ ∀ S2 H2, Same S S2 → Same S2 H2 → (∀ b o, ¬ B.R.M b → B.H0 b = some o → H2 b = some o) → H2 p = some (.lst vs) := fun {v} ev q => by
    cases q with
    | lst h k => exact ⟨_, _, ev, R.sub _ _ h, k, fun S2 H2 s1 s2 _ => s2 _ _ (s1 _ _ h)⟩
  match s, e2 with
  | .sh (.list _), e2 =>
    cases e2
    obtain ⟨v, ev, q⟩ := k
    exact fromS ev q
  | .ar (.list _), e2 =>
    cases e2
    obtain ⟨v, ev, q⟩ := k
    rcases q with q | ⟨p, vs, es, rfl, e3, nM, h, q⟩
    · exact fromS ev q
    · cases e3
      exact ⟨p, vs, ev, R.ent _ _ nM h, q, fun S2 H2 _ _ z => z p _ nM h⟩
theorem bi_zipN (i j : Nat) {x y : Str} {p p1 p2 tpos : Pos} {elts : List Expr} {kk : Nat} (hg : Gl X "zip") (hm : X.mg "zip" = none)
    (hN : X.N[i]? = some x := by rfl) (hN2 : X.N[j]? = some y := by rfl) (hv : Vis X.env.scope x := by first | exact Or.inl rfl | exact Or.inr (Or.inl rfl) | exact Or.inr (Or.inr rfl)) (hv2 : Vis X.env.scope y := by first | exact Or.inl rfl | exact Or.inr (Or.inl rfl) | exact Or.inr (Or.inr rfl))
    (hs : starEach [.Name x p1, .Name y p2] X.env = (false, eval (.Name x p1) X.env) :: starEach [.Name y p2] X.env := by rfl) (hs2 : starEach [.Name y p2] X.env = (false, eval (.Name y p2) X.env) :: starEach [] X.env := by rfl) (hpl : (backTo pos (starEach [.Name y p2] X.env)).any (·.1) = false := by rfl) (hK : X.K = K := by rfl)
    (hd : (x == ("__debug__" : Str)) = false := by decide) (hcd : (x == ("__classdict__" : Str)) = false := by decide) (hd2 : (y == ("__debug__" : Str)) = false := by decide) (hcd2 : (y == ("__classdict__" : Str)) = false := by decide) :
    DI B true X (.Tuple elts kk tpos) (.Call (.Name "zip" p) [.Name x p1, .Name y p2] [] pos) (RZ.iZipA K (tCons (tVar i) (tCons (tVar j) tNil))) (dZipN i j) := by
  subst hK
  refine ⟨RZ.pi_zipA hg hm (pa_cons (pe_var hN hv hd hcd) (pa_cons (pe_var hN2 hv2 hd2 hcd2) pa_nil hs2) hs) hs hpl, fun S H σ τ R' R q => ?_⟩
  unfold dZipN at q
  split at q
  · rename_i ds es e1 e2
    obtain ⟨a, xs, ea, ha, ka, sa⟩ := lst_still R e1
    obtain ⟨b, ys, eb, hb, kb, sb⟩ := lst_still R e2
    have hl : (List.zipWith (fun a b => PyData.tuple [a, b]) ds es).length = min xs.length ys.length := by rw [List.length_zipWith, ka.len, kb.len]
    refine ⟨.ref a, ea, .ref b, eb, a, b, xs, ys, rfl, .inl ⟨SqL.of ha, SqL.of hb, q _ S H .refl R ⟨fun H => SqL X.K H a xs ∧ SqL X.K H b ys, _, walk_zip hl, fun S2 H2 s1 s2 z => ⟨SqL.of (sa S2 H2 s1 s2 z), SqL.of (sb S2 H2 s1 s2 z)⟩, fun i Ha x Hb d S2 e s1 s2 _ y => ?_⟩ trivial⟩⟩
    rw [List.getElem?_zipWith] at e
    cases q1 : ds[i]? with
    | none => rw [q1] at e; cases e
    | some d1 =>
      cases q2 : es[i]? with
      | none => rw [q1, q2] at e; cases e
      | some d2 =>
        rw [q1, q2] at e
        refine yok_pair y (d1 := d1) (d2 := d2) (fun w ew => ?_) (fun w ew => ?_) (Option.some.inj e).symm
        · obtain ⟨d', e3, q⟩ := ka.get ew
          rw [q1] at e3
          cases e3
          exact q.mono s1
        · obtain ⟨d', e3, q⟩ := kb.get ew
          rw [q2] at e3
          cases e3
          exact q.mono s1
  · exact q.elim
/-- zip of such a name and a list that is frozen -/
def dZipM {R : Rsc} (i : Nat) (g : Den R) : DenI R := fun τ => match τ.sl[i]?.bind lstS with
  | some _ => (g τ).bind fun p => match p.1, p.2.sl[i]?.bind lstS with
    | .sh (.list ys), some xs => .ok (List.zipWith (fun a b => .tuple [a, b]) xs ys, p.2)
    | _, _ => .bad
  | none => .bad
@[simp] theorem ev_dZipM {R : Rsc} (i : Nat) (g : Den R) (τ : Tau R) : dZipM i g τ = (match τ.sl[i]?.bind lstS with
  | some _ => (g τ).bind fun p => match p.1, p.2.sl[i]?.bind lstS with
    | .sh (.list ys), some xs => .ok (List.zipWith (fun a b => .tuple [a, b]) xs ys, p.2)
    | _, _ => .bad
  | none => .bad) := rfl
theorem bi_zipM (i : Nat) {x : Str} {p p1 tpos : Pos} {elts : List Expr} {kk : Nat} (hg : Gl X "zip") (hm : X.mg "zip" = none) (hb : DE B X b tb gb)
    (hN : X.N[i]? = some x := by rfl) (hv : Vis X.env.scope x := by first | exact Or.inl rfl | exact Or.inr (Or.inl rfl) | exact Or.inr (Or.inr rfl))
    (hs : starEach [.Name x p1, b] X.env = (false, eval (.Name x p1) X.env) :: starEach [b] X.env := by rfl) (hs2 : starEach [b] X.env = (false, eval b X.env) :: starEach [] X.env := by rfl) (hpl : (backTo pos (starEach [b] X.env)).any (·.1) = false := by rfl) (hK : X.K = K := by rfl)
    (hd : (x == ("__debug__" : Str)) = false := by decide) (hcd : (x == ("__classdict__" : Str)) = false := by decide) :
    DI B true X (.Tuple elts kk tpos) (.Call (.Name "zip" p) [.Name x p1, b] [] pos) (RZ.iZipA K (tCons (tVar i) (tCons tb tNil))) (dZipM i gb) := by
  subst hK
  refine ⟨RZ.pi_zipA hg hm (pa_cons (pe_var hN hv hd hcd) (pa_cons hb.pe pa_nil hs2) hs) hs hpl, fun S H σ τ R' R q => ?_⟩
  unfold dZipM at q
  cases e0 : τ.sl[i]?.bind lstS with
  | none => rw [e0] at q; exact q.elim
  | some ds0 =>
    rw [e0] at q
    obtain ⟨a, xs0, ea, _, _, _⟩ := lst_still R e0
    refine ⟨.ref a, ea, hb.sd S H σ τ _ R (Sat.step (f := fun p => match p.1, p.2.sl[i]?.bind lstS with
      | .sh (.list ys), some xs => .ok (List.zipWith (fun a b => PyData.tuple [a, b]) xs ys, p.2)
      | _, _ => .bad) q fun val τ1 v S1 H1 _ G1 R1 o1 _ h1 => ?_)⟩
    split at h1
    · rename_i es ds e2 e1
      simp only at e1 e2
      subst e2
      obtain ⟨a', xs, ea', ha, ka, sa⟩ := lst_still R1 e1
      rw [ea] at ea'
      cases ea'
      have o1 : Dq S1 v (.list es) := o1
      cases o1 with
      | lst hb' kb =>
        rename_i b' ys _fr
        have hl : (List.zipWith (fun a b => PyData.tuple [a, b]) ds es).length = min xs.length ys.length := by rw [List.length_zipWith, ka.len, kb.len]
        refine ⟨a, b', xs, ys, rfl, .inl ⟨SqL.of ha, SqL.of (R1.sub _ _ hb'), h1 _ S1 H1 .refl R1 ⟨fun H => SqL X.K H a xs ∧ SqL X.K H b' ys, _, walk_zip hl, fun S2 H2 s1 s2 z => ⟨SqL.of (sa S2 H2 s1 s2 z), SqL.of (s2 _ _ (s1 _ _ hb'))⟩, fun i Ha x Hb d S2 e s1 s2 _ y => ?_⟩ trivial⟩⟩
        rw [List.getElem?_zipWith] at e
        cases q1 : ds[i]? with
        | none => rw [q1] at e; cases e
        | some d1 =>
          cases q2 : es[i]? with
          | none => rw [q1, q2] at e; cases e
          | some d2 =>
            rw [q1, q2] at e
            refine yok_pair y (d1 := d1) (d2 := d2) (fun w ew => ?_) (fun w ew => ?_) (Option.some.inj e).symm
            · obtain ⟨d', e3, q⟩ := ka.get ew
              rw [q1] at e3
              cases e3
              exact q.mono s1
            · obtain ⟨d', e3, q⟩ := kb.get ew
              rw [q2] at e3
              cases e3
              exact q.mono s1
    · exact h1.elim
end
/-- nothing is promised: where a recursion begins -/
theorem Cal.nil {P : Program} {w : World} {K : PySem.W.Frag} {mg : Str → Option Value} {base : Heap} {x qual : Str} {st : Stmt} {f : Addr} {fd : FuncData} {ps : List Str} {k : Nat} (Fu : Fun K x qual st f fd) (gm : mg x = some (.ref f)) (b : Binds K fd ps []) : Cal P w K mg base x k (fun _ => none) := by
  have no : ∀ {vs : List V} {H : Hp} {Q : VK} {E : XK}, spP (fun _ => none) vs H Q E → False := fun h => by
    obtain ⟨_, _, _, _, _, _, _, _, _, _, e, _⟩ := h
    cases e
  exact ⟨f, fd, ps, ⟨fun vs H Q E h => (no h).elim, fun A outer s H args us vs Q E hr he hb hv h => (no h).elim⟩, gm, Fu.kp, b⟩
end Kn
set_option Elab.async false
set_option linter.all false
set_option maxRecDepth 100000
set_option maxHeartbeats 4000000
namespace Kn
open PySem PySem.Spec L2
open PyProof.Rows hiding St
/-! ### t > u of tuples of ints -/
def gtL : List Int → List Int → Bool
  | [], _ => false
  | _ :: _, [] => true
  | x :: xs, y :: ys => if x = y then gtL xs ys else decide (y < x)
theorem lexAt_shift (e r : Nat → Bool) (z : Bool) : ∀ (k i : Nat), Ob.lexAt e r z (i + 1) k = Ob.lexAt (fun j => e (j + 1)) (fun j => r (j + 1)) z i k
  | 0, _ => rfl
  | k + 1, i => by
    rw [Ob.lexAt_succ, Ob.lexAt_succ, lexAt_shift e r z k (i + 1)]
theorem gtL_lex : ∀ (xs ys : List Int), gtL xs ys = Ob.lexAt (fun j => decide (xs.getD j 0 = ys.getD j 0)) (fun j => decide (ys.getD j 0 < xs.getD j 0)) (decide (xs.length > ys.length)) 0 (min xs.length ys.length)
  | [], ys => by
    rw [show min ([] : List Int).length ys.length = 0 from Nat.zero_min _]
    exact (decide_eq_false (by simp)).symm
  | x :: xs, [] => by
    rw [show min (x :: xs).length ([] : List Int).length = 0 from Nat.min_zero _]
    exact (decide_eq_true (by simp)).symm
  | x :: xs, y :: ys => by
    have hm : min (x :: xs).length (y :: ys).length = min xs.length ys.length + 1 := by simp [Nat.succ_min_succ]
    rw [hm, Ob.lexAt_succ, lexAt_shift]
    show (if x = y then gtL xs ys else decide (y < x)) = _
    have ih := gtL_lex xs ys
    have hl : decide ((x :: xs).length > (y :: ys).length) = decide (xs.length > ys.length) := by simp
    rw [hl]
    by_cases h : x = y
    · rw [if_pos h, ih]
      subst h
      simp
    · rw [if_neg h]
      simp [h]
def rGtT (K : PySem.W.Frag) : R2 := fun x y H Q => ∃ (p q : Addr) (xs ys : List Int), x = .ref p ∧ y = .ref q ∧ SqT K H p (xs.map V.int) ∧ SqT K H q (ys.map V.int) ∧ Q (.bl (gtL xs ys)) H
theorem op_gtT {X : Cx} (room : X.A.units < cLine) : OpR X (compareOp .Gt) (rGtT X.K) := by
  rintro pins s σ H x y v u Q I rx ry ⟨p, q, xs, ys, rfl, rfl, hp, hq, fin⟩
  cases rx
  cases ry
  obtain ⟨us, ru, pu, _⟩ := I.tuple hp
  obtain ⟨ws, rw', pw, _⟩ := I.tuple hq
  have iu : IntsAre us xs := Vals.ints ru
  have iw : IntsAre ws ys := Vals.ints rw'
  have lu : us.toArray.size = xs.length := by rw [List.size_toArray]; exact iu.length
  have lw : ws.toArray.size = ys.length := by rw [List.size_toArray]; exact iw.length
  have gu : ∀ j (h : j < us.toArray.size), ∃ t, us.toArray[j] = .int (xs.getD j 0) t := fun j h => PyProof.Rows.IntsAre.int_at iu _ _ (by simp at h; simp [h])
  have gw : ∀ j (h : j < ws.toArray.size), ∃ t, ws.toArray[j] = .int (ys.getD j 0) t := fun j h => PyProof.Rows.IntsAre.int_at iw _ _ (by simp at h; simp [h])
  have main := Ob.RcOp.tuples_gt (A := X.A) (s := s) (e := fun j => decide (xs.getD j 0 = ys.getD j 0)) (r := fun j => decide (ys.getD j 0 < xs.getD j 0)) pu pw room (fun j ha hb => by
    obtain ⟨t, et⟩ := gu j ha
    obtain ⟨t', et'⟩ := gw j hb
    rw [et, et', show decide (xs.getD j 0 = ys.getD j 0) = (xs.getD j 0 == ys.getD j 0) by
      by_cases c : xs.getD j 0 = ys.getD j 0
      · rw [decide_eq_true c, beq_iff_eq.mpr c]
      · rw [decide_eq_false c, beq_eq_false_iff_ne.mpr c]]
    exact SeqAt.EqAt.int_int _ _ _ _) (fun j ha hb _ => by
    obtain ⟨t, et⟩ := gu j ha
    obtain ⟨t', et'⟩ := gw j hb
    rw [et, et']
    exact Ob.RcOp.gt_int _ _ _ _)
  rw [lu, lw, ← gtL_lex] at main
  exact (main X.prog X.w X.xe (EP X pins σ Q) ⟨.bl _, H, I, rfl, fin⟩ : wpAny (model X.prog X.w) X.A (compareOp .Gt (.ref p) (.ref q)) (EP X pins σ Q) X.xe s)
def fGtT : Val → Val → Option Val := fun a b => match a.tup.bind asInts, b.tup.bind asInts with
  | some xs, some ys => some (.sh (.bool (gtL xs ys)))
  | _, _ => none
end Kn
set_option Elab.async false
set_option linter.all false
set_option maxRecDepth 100000
set_option maxHeartbeats 4000000
namespace Kn
open PySem PySem.Spec L2
open PyProof.Rows hiding St
section
variable {X : Cx} {B : Bs} {a b c e e2 tg : Expr} {es rest : List Expr} {ta tb tc te : TE} {ga gb gc ge : Den B.R} {pos p : Pos} {k : Nat} {t : TA} {g : DenA B.R} {K : PySem.W.Frag}
/-! ### `>` of ints or of tuples of ints -/
theorem s_gtT {K : PySem.W.Frag} : OpS B (rGtT K) fGtT := by
  intro S H σ τ v w a b c Q R ka kb e q
  unfold fGtT at e
  cases ea : a.tup.bind asInts with
  | none => simp only [ea] at e; cases e
  | some ns =>
    cases eb : b.tup.bind asInts with
    | none => simp only [ea, eb] at e; cases e
    | some ms =>
      simp only [ea, eb] at e
      cases e
      obtain ⟨p, _, rfl, h1⟩ := ka.tupI ea
      obtain ⟨p2, _, rfl, h2⟩ := kb.tupI eb
      exact ⟨p, p2, ns, ms, rfl, rfl, sqtF (R.sub _ _ h1), sqtF (R.sub _ _ h2), q _ S H .refl R (.bl _) frS⟩
def fGtA : Val → Val → Option Val := fun a b => (fGt a b).or (fGtT a b)
def rGtA (K : PySem.W.Frag) : R2 := fun x y H Q => rI0 (fun i j => .bl (decide (j < i))) x y H Q ∨ rGtT K x y H Q
theorem op_gtA (hu : X.A.units < cLine) : OpR X (compareOp .Gt) (rGtA X.K) := op_gt.or (op_gtT hu)
theorem s_gtA {K : PySem.W.Frag} : OpS B (rGtA K) fGtA := s_gt.or s_gtT
@[simp] theorem ev_fGtA (i j : Int) : fGtA (.sh (.int i)) (.sh (.int j)) = some (.sh (.bool (decide (j < i)))) := rfl

/-! ### new dicts -/
def dDNew {R : Rsc} : Den R := fun τ => .ok (.fd [], τ)
theorem de_dnew : DE B X (.Dict [] [] pos) tDNewK (dDNew (R := B.R)) := ⟨pe_dnewK, fun S H σ τ Q R h p hp => by
  obtain ⟨g2, r2, k2, f2⟩ := lay_dict R hp (vs := []) (ds := []) .nil
  exact h _ _ _ g2 r2 k2 f2⟩
theorem upd_twice {H : Hp} {q : Addr} {o o' : HO} : upd (upd H q o) q o' = upd H q o' := by
  funext z
  by_cases h : z = q
  · subst h
    rw [upd_same, upd_same]
  · rw [upd_ne h, upd_ne h, upd_ne h]
def dDOne {R : Rsc} (k x : Int) : Den R := fun τ => .ok (.fd [(k, .int x)], τ)
theorem de_done {k x : Int} {j1 j2} {p1 p2 : Pos} : DE B X (.Dict [some (.Constant (.int k) j1 p1)] [.Constant (.int x) j2 p2] pos) (tDisp [(tC (.int k), tC (.int x))]) (dDOne (R := B.R) k x) := ⟨pe_disp (pps_cons pe_int pe_int pps_nil) rfl rfl (by simp) (Nat.le_of_ble_eq_true rfl), fun S H σ τ Q R h p hp => by
  obtain ⟨g2, r2, k2, f2⟩ := lay_dict R hp (vs := [(Sum.inl k, V.int x)]) (ds := [(k, .int x)]) (.cons ⟨rfl, .int x⟩ .nil)
  refine ⟨upd_same, [(Sum.inl k, V.int x)], rfl, Nat.le_of_ble_eq_true rfl, ?_⟩
  rw [upd_twice]
  exact h _ _ _ g2 r2 k2 f2⟩

/-! ### d.get(k, e), d an own dict -/
def dDGet {R : Rsc} (i : Nat) (g h : Den R) : Den R := fun τ => match τ.sl[i]? with
  | some (.od _) => (g τ).bind fun p => match p.1.int with
    | some k => (h p.2).bind fun q => match q.1, q.2.sl[i]? with
      | .sh d, some (.od l) => .ok (.sh ((valI l k).getD d), q.2)
      | _, _ => .bad
    | none => .bad
  | _ => .bad
theorem de_dget (hu : X.A.units + 1 < cLine) (i : Nat) {x : Str} {apos cpos : Pos} (hb : DE B X b tb gb) (he : DE B X e te ge) (hN : X.N[i]? = some x := by rfl) (hv : Vis X.env.scope x := by first | exact Or.inl rfl | exact Or.inr (Or.inl rfl) | exact Or.inr (Or.inr rfl))
    (m : M2 X (.Name x p) "get" apos b e cpos := by exact ⟨by rfl, by rfl, by rfl, by rfl⟩) (hd : (x == ("__debug__" : Str)) = false := by decide) (hcd : (x == ("__classdict__" : Str)) = false := by decide) :
    DE B X (.Call (.Attribute (.Name x p) "get" apos) [b, e] [] cpos) (tDGet2 (tVar i) tb te) (dDGet i gb ge) := by
  refine ⟨pe_dget2 hu (pe_var hN hv hd hcd) hb.pe he.pe m, fun S H σ τ Q R q => ?_⟩
  unfold dDGet at q
  split at q
  · rename_i l0 e0
    obtain ⟨a', vs, ea, h1, k1, _⟩ := R.setOd e0
    refine ⟨.ref a', ea, a', rfl, .inl ⟨vs, .inl h1⟩, hb.sd S H σ τ _ R (Sat.step q fun val τ1 v S1 H1 _ G1 R1 o1 _ q1 => ?_)⟩
    simp only at q1
    cases en : val.int with
    | none => simp only [en] at q1; exact q1.elim
    | some k =>
      simp only [en] at q1
      obtain ⟨rfl, _⟩ := VOk.int o1 en
      refine he.sd S1 H1 σ τ1 _ R1 (Sat.step q1 fun val2 τ2 w S2 H2 e9 G2 R2 o2 f2 q2 => ?_)
      simp only at q2
      split at q2
      · rename_i d l e1
        obtain ⟨a2, vs2, ea2, h2, k2, _⟩ := R2.setOd e1
        rw [ea] at ea2
        cases ea2
        refine ⟨valV vs2 (Sum.inl k), DGet.k (k := Sum.inl k) h2, ?_⟩
        rcases KvA.val (k := k) k2 with ⟨v0, d0, w1, w2, w3⟩ | ⟨w1, w2⟩
        · rw [w2] at q2
          rw [w1]
          exact q2 v0 S2 H2 .refl R2 w3 frS
        · rw [w2] at q2
          rw [w1]
          exact q2 w S2 H2 .refl R2 o2 frS
      · exact q2.elim
  · exact q.elim
/-! ### d[k] = e, d an own dict -/
def dDPut {R : Rsc} (i : Nat) (g h : Den R) : DenS R := fun τ => (g τ).bind fun p => match p.1, p.2.sl[i]? with
  | .sh d, some (.od _) => (h p.2).bind fun q => match q.1.int, q.2.sl[i]? with
    | some k, some (.od l) => if l.length < sizeLine then .ok (.nx (q.2.put i (.od (putI l k d)))) else .bad
    | _, _ => .bad
  | _, _ => .bad
theorem ds_dput (hu : X.A.units + 1 < cLine) (i : Nat) {x : Str} {p2 : Pos} (he : DE B X e te ge) (hb : DE B X b tb gb) (hN : X.N[i]? = some x := by rfl) (hv : Vis X.env.scope x := by first | exact Or.inl rfl | exact Or.inr (Or.inl rfl) | exact Or.inr (Or.inr rfl))
    (hs : swapsWith e (some (.Subscript (.Name x p) b p2)) pos.line X.env = pure false := by rfl) (hd : (x == ("__debug__" : Str)) = false := by decide) (hcd : (x == ("__classdict__" : Str)) = false := by decide) :
    DS B X (.Assign [.Subscript (.Name x p) b p2] e pos) (sDPut (tVar i) tb te) (dDPut i ge gb) := by
  refine ⟨ps_dput hu (pe_var hN hv hd hcd) hb.pe he.pe hs, fun S H σ τ D R q => ?_⟩
  refine he.sd S H σ τ _ R (sat_e q fun val τ1 v S1 H1 e9 G1 R1 o1 f1 q => ?_)
  simp only at q
  split at q
  · rename_i d l0 e0
    obtain ⟨a', vs, ea, h1, k1, _⟩ := R1.setOd e0
    refine ⟨.ref a', ea, hb.sd S1 H1 σ τ1 _ R1 (sat_e q fun val2 τ2 w S2 H2 _ G2 R2 o2 _ q => ?_)⟩
    simp only at q
    split at q
    · rename_i k l e3 e4
      obtain ⟨rfl, _⟩ := VOk.int o2 e3
      obtain ⟨a2, vs2, ea2, h2, k2, up⟩ := R2.setOd e4
      rw [ea] at ea2
      cases ea2
      by_cases hz : l.length < sizeLine
      · rw [if_pos hz] at q
        exact ⟨a', _, rfl, DPut.k (k := Sum.inl k) h2 (by rw [k2.len]; exact hz), q S2 _ σ (Same.refl _) (up _ _ (k2.put (Dq.mono G2.s o1)))⟩
      · rw [if_neg hz] at q
        exact q.elim
    · exact q.elim
  · exact q.elim

/-! ### for k, v in d.items(), d an own dict that is let go there -/
def itD (l : List (Int × PyData)) : List PyData := l.map fun p => .tuple [.int p.1, p.2]
def dForD {R : Rsc} (i : Nat) (set : SetD R) (gb : DenS R) : DenS R := fun τ => match τ.sl[i]? with
  | some (.od l) => match forGo set gb (itD l) (τ.put i .un) with
    | .ok (.nx τ') => .ok (.nx τ')
    | _ => .bad
  | _ => .bad
def del (S : Hp) (d : Addr) : Hp := fun b => if b = d then none else S b
theorem del_ne {S : Hp} {d b : Addr} (h : b ≠ d) : del S d b = S b := if_neg h
mutual
theorem Dq.del {S : Hp} {d : Addr} {o : Obj} {l : List (Key × V)} (h : S d = some (.frz o (.dK l))) : ∀ {v : V} {x : PyData}, Dq S v x → Dq (del S d) v x
  | _, _, .non => .non
  | _, _, .bl b => .bl b
  | _, _, .int i => .int i
  | _, _, .str x => .str x
  | _, _, .lst (a := a) e k => .lst (by
      rw [del_ne fun z => by
        rw [z, h] at e
        cases e]
      exact e) (DqA.del h k)
  | _, _, .tup (a := a) e n k => .tup (by
      rw [del_ne fun z => by
        rw [z, h] at e
        cases e]
      exact e) n (DqA.del h k)
theorem DqA.del {S : Hp} {d : Addr} {o : Obj} {l : List (Key × V)} (h : S d = some (.frz o (.dK l))) : ∀ {vs : List V} {xs : List PyData}, DqA S vs xs → DqA (del S d) vs xs
  | _, _, .nil => .nil
  | _, _, .cons a r => .cons (Dq.del h a) (DqA.del h r)
end
theorem KvA.del {S : Hp} {d : Addr} {o : Obj} {l : List (Key × V)} (h : S d = some (.frz o (.dK l))) {vs : List (Key × V)} {kvs : List (Int × PyData)} (r : KvA S vs kvs) : KvA (del S d) vs kvs := Paired.mapP r fun p q z => ⟨z.1, z.2.del h⟩
theorem Rel.unfreeze {S H : Hp} {σ : St} {τ : Tau B.R} (R : Rel B S H σ τ) {d : Addr} {o : Obj} {l : List (Key × V)} (h : S d = some (.frz o (.dK l))) (h0 : B.H0 d = none) (hs0 : B.S0 d = none) (hM : ¬ B.R.M d) (hr : ∀ γ S H, B.R.ok γ S H) : Rel B (del S d) (upd H d (.dK l)) σ τ := by
  have hH := R.sub _ _ h
  refine ⟨fun b u e => ?_, fun b u m e => ?_, fun b u e => ?_, fun b u e => ?_, fun b m => ?_, R.len, fun i s e => ?_, R.dis, hr _ _ _, R.m0⟩
  · by_cases z : b = d
    · subst z
      rw [Kn.del, if_pos rfl] at e
      cases e
    · rw [del_ne z] at e
      rw [upd_ne z]
      exact R.sub b u e
  · rw [upd_ne (ne_of_none e h0)]
    exact R.ent b u m e
  · rw [del_ne (ne_of_none e hs0)]
    exact R.s0 b u e
  · by_cases z : b = d
    · subst z
      rw [Kn.del, if_pos rfl] at e
      cases e
    · rw [del_ne z] at e
      exact R.new b u e
  · rw [del_ne (fun z : b = d => hM (by rw [← z]; exact m))]
    exact R.mS b m
  · have k := R.sl i s e
    have nd : ∀ {a : Addr} {u : HO}, H a = some u → (∀ o' u', u ≠ .frz o' u') → a ≠ d := fun {a u} e n z => by
      rw [z, hH] at e
      cases e
      exact n _ _ rfl
    cases s with
    | un => exact k
    | sh x =>
      obtain ⟨v, e, q⟩ := k
      exact ⟨v, e, q.del h⟩
    | ar x =>
      obtain ⟨v, e, q⟩ := k
      refine ⟨v, e, ?_⟩
      rcases q with q | ⟨a, vs, ds, e1, e2, e3, e4, e5⟩
      · exact .inl (q.del h)
      · exact .inr ⟨a, vs, ds, e1, e2, e3, e4, e5.del h⟩
    | ow ds =>
      obtain ⟨a, vs, e, h1, h2, h3, h4, h5⟩ := k
      have n := nd h1 fun _ _ z => by cases z
      exact ⟨a, vs, e, by rw [upd_ne n]; exact h1, h2, by rw [del_ne n]; exact h3, h4, h5.del h⟩
    | od ds =>
      obtain ⟨a, vs, e, h1, h2, h3, h4, h5⟩ := k
      have n := nd h1 fun _ _ z => by cases z
      exact ⟨a, vs, e, by rw [upd_ne n]; exact h1, h2, by rw [del_ne n]; exact h3, h4, h5.del h⟩
    | rw v => exact k
theorem ds_forD {elts : List Expr} {kk : Nat} {tpos apos cpos : Pos} {body : List Stmt} {gg : TG} {ts : TS} {set : SetD B.R} {is : List Nat} {gs : DenS B.R} (i : Nat) {x : Str} (hr : ∀ γ S H, B.R.ok γ S H) (hp : PassesOwn (model X.prog X.w) X.A X.env X.xe) (hc : X.calm = true) (hg : DG B true X (.Tuple elts kk tpos) gg set is) (hb : DSs B X body ts gs)
    (hN : X.N[i]? = some x := by rfl) (hv : Vis X.env.scope x := by first | exact Or.inl rfl | exact Or.inr (Or.inl rfl) | exact Or.inr (Or.inr rfl)) (hbase : attributeBase (.Name x p) "items" X.env (eval (.Name x p) X.env) = eval (.Name x p) X.env := by rfl) (hline : (apos.endLine == cpos.line) = true := by rfl)
    (hs : ∀ x', foldedSetIterable (.Call (.Attribute (.Name x p) "items" apos) [] [] cpos) X.env x' = pure x' := by intro _; rfl) (hd : (x == ("__debug__" : Str)) = false := by decide) (hcd : (x == ("__classdict__" : Str)) = false := by decide) :
    DS B X (.For (.Tuple elts kk tpos) (.Call (.Attribute (.Name x p) "items" apos) [] [] cpos) body [] pos) (tLock (tFor (iItems (tVar i)) gg ts)) (dForD i set gs) := by
  refine ⟨ps_lock (ps_for hp hc (pi_items (pe_var hN hv hd hcd) hbase hline) hg.pe hb.pe hs), fun S H σ τ D R q => ?_⟩
  unfold dForD at q
  split at q
  · rename_i l e0
    obtain ⟨d, vs, ea, h1, h2, h3, h4, h5⟩ := R.sl i _ e0
    split at q
    · rename_i τE eF
      refine ⟨d, .dK vs, h1, True.intro, fun od => ⟨.ref d, ea, d, od, vs, rfl, upd_same, ?_⟩⟩
      have Ra := R.put (i := i) (s := .un) rfl trivial
      have no : ¬ Own σ (τ.put i .un).sl d := own_gone R e0 rfl ea rfl
      have Rb := Ra.updFr (o' := .frz od (.dK vs)) h1 h3 h4 h2 no
      have R1 := Rb.freeze (a := d) upd_same h3 h4 h2 no
      generalize hS1 : upd S d (.frz od (.dK vs)) = S1 at R1
      generalize hH1 : upd H d (.frz od (.dK vs)) = H1 at R1
      have sm : Same S S1 := by
        rw [← hS1]
        exact fun b u e => by
          rw [upd_ne (ne_of_none e h3)]
          exact e
      have s1d : S1 d = some (.frz od (.dK vs)) := by
        rw [← hS1]
        exact upd_same
      have kv : KvA S1 vs l := Paired.mapK sm h5
      have ll : vs.length = (itD l).length := by
        unfold itD
        rw [List.length_map]
        exact h5.len
      have hs0 : B.S0 d = none := by
        cases w : B.S0 d with
        | none => rfl
        | some u =>
          rw [R.s0 _ _ w] at h3
          cases h3
      have fin : ∀ {S' H' : Hp} {σ' : St}, Same S1 S' → Rel B S' H' σ' τE → H' d = some (.frz od (.dK vs)) ∧ D.nx σ' (upd H' d (.dK vs)) := fun {S' H' σ'} s r => by
        have hd' := s _ _ s1d
        refine ⟨r.sub _ _ hd', q (del S' d) _ σ' (fun b u e => ?_) (r.unfreeze hd' h2 hs0 h4 hr)⟩
        rw [del_ne (ne_of_none e h3)]
        exact s _ _ (sm _ _ e)
      have W : Walk (Iti d od vs) (itD l).length (fun H => H d = some (.frz od (.dK vs))) (YPair (fun i => vs[i]?.map fun kv => kV kv.1) (fun i => vs[i]?.map Prod.snd)) := by
        rw [← ll]
        exact walk_items
      refine for_it W (fun j σ' H' => ∃ S' τi, Same S1 S' ∧ Rel B S' H' σ' τi ∧ forGo set gs ((itD l).drop j) τi = .ok (.nx τE)) ⟨S1, _, Same.refl _, R1, eF⟩
        (fun j σ' H' _ ⟨S', τi, s, r, _⟩ => r.sub _ _ (s _ _ s1d)) (fun j y σ' Ha Hb hj ⟨S', τi, s, r, sa⟩ yy => ?_) (fun σ' H' ⟨S', τi, s, r, sa⟩ => ?_)
      · have hdj : (itD l)[j]? = some (itD l)[j] := List.getElem?_eq_getElem hj
        have hlj : j < l.length := by
          unfold itD at hj
          rw [List.length_map] at hj
          exact hj
        have ej : (itD l)[j] = .tuple [.int l[j].1, l[j].2] := by simp [itD]
        have yk : YOk true S' Ha y Hb (itD l)[j] := by
          obtain ⟨kv1, e1, q1, q2⟩ := paired_get kv (List.getElem?_eq_getElem hlj)
          refine yok_pair yy (d1 := .int l[j].1) (d2 := l[j].2) (fun w ew => ?_) (fun w ew => ?_) ej
          · rw [e1] at ew
            cases ew
            show Dq S' (kV kv1.1) _
            rw [q1]
            exact .int _
          · rw [e1] at ew
            cases ew
            exact q2.mono s
        obtain ⟨gb2, rb, kb⟩ := yok_lay r yk
        rw [List.drop_eq_getElem_cons hj] at sa
        unfold forGo at sa
        cases es : set (itD l)[j] τi with
        | none =>
          simp only [es] at sa
          cases sa
        | some τ2 =>
          simp only [es] at sa
          refine hg.sd S' Hb σ' τi y _ τ2 _ rb kb es fun σ2 R2 _ _ _ => hb.sd S' Hb σ2 τ2 _ R2 ?_
          cases eb : gs τ2 with
          | bad => rw [eb] at sa; cases sa
          | exc z => rw [eb] at sa; cases sa
          | ok f =>
            rw [eb] at sa
            cases f with
            | nx τ3 => exact fun S3 H3 σ3 s3 r3 => ⟨S3, τ3, s.trans s3, r3, sa⟩
            | ct τ3 => exact fun S3 H3 σ3 s3 r3 => ⟨S3, τ3, s.trans s3, r3, sa⟩
            | bk τ3 =>
              have sa : (Out.ok (Fl.nx τ3) : Out (Exn B.R) (Fl B.R)) = .ok (.nx τE) := sa
              cases sa
              exact fun S3 H3 σ3 s3 r3 => fin (s.trans s3) r3
            | rt v τ3 => cases sa
      · rw [List.drop_length] at sa
        cases sa
        exact fin s r
    · exact q.elim
  · exact q.elim

/-! ### min(d), max(d) -/
def minL : List Int → Option Int
  | [] => none
  | x :: r => some (r.foldl min x)
def maxL : List Int → Option Int
  | [] => none
  | x :: r => some (r.foldl max x)
theorem fmin_mem : ∀ (r : List Int) (x : Int), r.foldl min x ∈ x :: r ∧ (r.foldl min x ≤ x) ∧ ∀ j ∈ r, r.foldl min x ≤ j
  | [], x => ⟨List.mem_cons_self, Int.le_refl _, fun _ h => nomatch h⟩
  | y :: r, x => by
    obtain ⟨h1, h2, h3⟩ := fmin_mem r (min x y)
    rw [List.foldl_cons]
    refine ⟨?_, by omega, fun j hj => ?_⟩
    · rcases List.mem_cons.mp h1 with h | h
      · rcases Int.le_total x y with z | z
        · rw [h, Int.min_eq_left z]
          exact List.mem_cons_self
        · rw [h, Int.min_eq_right z]
          exact List.mem_cons_of_mem _ List.mem_cons_self
      · exact List.mem_cons_of_mem _ (List.mem_cons_of_mem _ h)
    · rcases List.mem_cons.mp hj with rfl | hj
      · omega
      · exact h3 j hj
theorem fmax_mem : ∀ (r : List Int) (x : Int), r.foldl max x ∈ x :: r ∧ (x ≤ r.foldl max x) ∧ ∀ j ∈ r, j ≤ r.foldl max x
  | [], x => ⟨List.mem_cons_self, Int.le_refl _, fun _ h => nomatch h⟩
  | y :: r, x => by
    obtain ⟨h1, h2, h3⟩ := fmax_mem r (max x y)
    rw [List.foldl_cons]
    refine ⟨?_, by omega, fun j hj => ?_⟩
    · rcases List.mem_cons.mp h1 with h | h
      · rcases Int.le_total x y with z | z
        · rw [h, Int.max_eq_right z]
          exact List.mem_cons_of_mem _ List.mem_cons_self
        · rw [h, Int.max_eq_left z]
          exact List.mem_cons_self
      · exact List.mem_cons_of_mem _ (List.mem_cons_of_mem _ h)
    · rcases List.mem_cons.mp hj with rfl | hj
      · omega
      · exact h3 j hj
def fMinD : List Val → Option Val
  | [a] => a.dic.bind fun l => (minL (l.map Prod.fst)).map fun m => .sh (.int m)
  | _ => none
def fMaxD : List Val → Option Val
  | [a] => a.dic.bind fun l => (maxL (l.map Prod.fst)).map fun m => .sh (.int m)
  | _ => none
theorem VOk.dict {S H : Hp} {σ : St} {sl : List Sl} {v : V} {val : Val} {l : List (Int × PyData)} (o : VOk B S H σ sl v val) (e : val.dic = some l) : ∃ d vs, v = .ref d ∧ H d = some (.dK vs) ∧ KvA S vs l := by
  cases val with
  | fd l' =>
    cases e
    obtain ⟨d, vs, h1, h2, _, _, _, _, h6⟩ := o
    exact ⟨d, vs, h1, h2, h6⟩
  | bd l' =>
    cases e
    obtain ⟨d, vs, h1, h2, _, h6⟩ := o
    exact ⟨d, vs, h1, h2, h6⟩
  | _ => cases e
theorem KvA.fst {S : Hp} : ∀ {vs : List (Key × V)} {l : List (Int × PyData)}, KvA S vs l → vs.map (·.1) = (l.map Prod.fst).map Sum.inl
  | _, _, .nil => rfl
  | _, _, .cons h r => by
    rw [List.map_cons, List.map_cons, List.map_cons, KvA.fst r, h.1]
theorem s_minD : CallS B rMinK fMinD := by
  intro S H σ τ vs as c Q R ka e q
  cases ka with
  | nil => cases e
  | cons o r =>
    cases r with
    | cons _ _ => cases e
    | nil =>
      obtain ⟨l, e1, e2⟩ := Option.bind_eq_some_iff.mp (show Option.bind _ _ = some c from e)
      obtain ⟨m, e3, e4⟩ := Option.map_eq_some_iff.mp e2
      subst e4
      obtain ⟨d, ws, rfl, hh, kk⟩ := VOk.dict o e1
      cases hl : l.map Prod.fst with
      | nil => rw [hl] at e3; cases e3
      | cons y r =>
        rw [hl] at e3
        cases e3
        refine ⟨d, ws, y :: r, rfl, hh, by rw [kk.fst, hl], by simp, fun m hm hj => ?_⟩
        obtain ⟨f1, f2, f3⟩ := fmin_mem r y
        have h1 := hj _ f1
        have h2 : r.foldl min y ≤ m := by
          rcases List.mem_cons.mp hm with rfl | hm
          · exact f2
          · exact f3 m hm
        have : m = r.foldl min y := by omega
        subst this
        exact q _ S H .refl R (Dq.int _) frS
end
end Kn
set_option Elab.async false
set_option linter.all false
set_option maxRecDepth 100000
set_option maxHeartbeats 4000000
namespace Kn
open PySem PySem.Spec L2
open PyProof.Rows hiding St
section
variable {X : Cx} {B : Bs} {a b c e e2 tg : Expr} {es rest : List Expr} {ta tb tc te : TE} {ga gb gc ge : Den B.R} {pos p : Pos} {k : Nat} {t : TA} {g : DenA B.R} {K : PySem.W.Frag}
/-! ### the largest key -/
def rMaxI : List V → Hp → VK → Prop := fun vs H Q => ∃ (d : Addr) (es : List (Key × V)) (ns : List Int), vs = [V.ref d] ∧ H d = some (.dK es) ∧ es.map (·.1) = ns.map Sum.inl ∧ ns ≠ [] ∧ ∀ m, m ∈ ns → (∀ j ∈ ns, j ≤ m) → Q (.int m) H
theorem cr_maxI (hc : X.calm = true) : CallR X (.builtin "max") rMaxI := by
  intro pins s σ H vs us Q I r ⟨d, es, ns, e0, hd, hk, h0, q⟩
  subst e0
  rw [Vals.ref1 r]
  obtain ⟨_, nsys, ws, rel, dof⟩ := dk_of I.hok hd
  obtain ⟨ep, dat⟩ := dof.dictAt
  obtain ⟨ob, _, ho, _⟩ := id dat
  have lt : d < s.heap.objs.size := Heap.lt_size ho
  have ks : ws.map (·.1) = ns.map Sum.inl := (KV.keys rel).symm.trans hk
  have lw : ws.length = ns.length := by simpa using congrArg List.length ks
  have pos0 : 0 < ws.length := lw ▸ List.length_pos_iff.mpr h0
  have num : ∀ (i : Nat) (v : Value), (∃ k x, ws[i]? = some (k, x) ∧ (mixKind X.prog X.w).is k v = true) → ∃ t, v = Value.int (ns.getD i 0) t := fun i v ⟨k, x, e1, e2⟩ => by
    have z : (ns.map Sum.inl)[i]? = some k := by rw [← ks, List.getElem?_map, e1]; rfl
    rw [List.getElem?_map] at z
    obtain ⟨j, e3, e4⟩ := Option.map_eq_some_iff.mp z
    subst e4
    obtain ⟨t, e5⟩ := Value.isInt_shape (k := j) (v := v) e2
    exact ⟨t, by rw [e5, List.getD_eq_getElem?_getD, e3]; rfl⟩
  refine call_max_walk (wpAny_pyIter_dict (knd := mixKind X.prog X.w) nsys dat ?_)
  refine ⟨_, _, _, _, _, _, _, rfl, Walks.dictKeys (knd := mixKind X.prog X.w) (A := X.A.in1) (I.ok.hd hc) s.heap.objs.size d (Nat.ne_of_lt lt) ws ep, ⟨⟨_, Heap.get?_push_size _ rfl, rfl, rfl⟩, dat.keep fun z u w => Heap.get?_push_of_some _ w⟩,
    fun z hz => ?_, pos0, CmpOf.ints_gt (fun i => ns.getD i 0) num, fun v h2 tk hP hkeep => ?_⟩
  · rw [show (s.heap.push _).objs.size = s.heap.objs.size + 1 from Heap.size_push _ _]
    rcases List.mem_cons.mp hz with w | w
    · rw [w]
      exact Nat.le.refl
    · rw [List.mem_singleton.mp w]
      exact Nat.le_succ_of_le lt
  · obtain ⟨t, rfl⟩ := num _ v hP
    obtain ⟨b1, b2⟩ := argBest_gt (fun i => ns.getD i 0) (ws.length - 1)
    refine ⟨.int _, H, I.kept (t' := tk) fun z u w => hkeep z u (fun m => ?_) (Heap.get?_push_of_some _ w), ⟨t, rfl⟩, q _ ?_ fun j hj => ?_⟩
    · have e1 := List.mem_singleton.mp m
      have e2 := Heap.lt_size w
      rw [e1] at e2
      exact (Nat.lt_irrefl _ e2).elim
    · generalize argBest (fun i j => decide (ns.getD i 0 > ns.getD j 0)) (ws.length - 1) = bst at b1
      have hb : bst < ns.length := by omega
      rw [List.getD_eq_getElem?_getD, List.getElem?_eq_getElem hb]
      exact List.getElem_mem hb
    · obtain ⟨i, hi, w⟩ := List.mem_iff_getElem.mp hj
      have e2 : ns.getD i 0 = j := by rw [List.getD_eq_getElem?_getD, List.getElem?_eq_getElem hi, ← w]; rfl
      rw [← e2]
      exact b2 i (by omega)
theorem s_maxD : CallS B rMaxI fMaxD := by
  intro S H σ τ vs as c Q R ka e q
  cases ka with
  | nil => cases e
  | cons o r =>
    cases r with
    | cons _ _ => cases e
    | nil =>
      obtain ⟨l, e1, e2⟩ := Option.bind_eq_some_iff.mp (show Option.bind _ _ = some c from e)
      obtain ⟨m, e3, e4⟩ := Option.map_eq_some_iff.mp e2
      subst e4
      obtain ⟨d, ws, rfl, hh, kk⟩ := VOk.dict o e1
      cases hl : l.map Prod.fst with
      | nil => rw [hl] at e3; cases e3
      | cons y r =>
        rw [hl] at e3
        cases e3
        refine ⟨d, ws, y :: r, rfl, hh, by rw [kk.fst, hl], by simp, fun m hm hj => ?_⟩
        obtain ⟨f1, f2, f3⟩ := fmax_mem r y
        have h1 := hj _ f1
        have h2 : m ≤ r.foldl max y := by
          rcases List.mem_cons.mp hm with rfl | hm
          · exact f2
          · exact f3 m hm
        have : m = r.foldl max y := by omega
        subst this
        exact q _ S H .refl R (Dq.int _) frS

/-! ### enumerate(x), x a list handed in -/
def dEnumN {R : Rsc} (i : Nat) : DenI R := fun τ => match τ.sl[i]?.bind lstS with
  | some ds => .ok (enumD 0 ds, τ)
  | none => .bad
theorem bi_enumN (i : Nat) {x : Str} {p1 tpos : Pos} {elts : List Expr} {kk : Nat} (hg : Gl X "enumerate") (hm : X.mg "enumerate" = none) (hN : X.N[i]? = some x := by rfl) (hv : Vis X.env.scope x := by first | exact Or.inl rfl | exact Or.inr (Or.inl rfl) | exact Or.inr (Or.inr rfl))
    (hs : starEach [.Name x p1] X.env = [(false, eval (.Name x p1) X.env)] := by rfl) (hK : X.K = K := by rfl) (hd : (x == ("__debug__" : Str)) = false := by decide) (hcd : (x == ("__classdict__" : Str)) = false := by decide) :
    DI B true X (.Tuple elts kk tpos) (.Call (.Name "enumerate" p) [.Name x p1] [] pos) (iEnumA K (tCons (tVar i) tNil)) (dEnumN i) := by
  subst hK
  refine ⟨pi_enumA hg hm (pa_cons (pe_var hN hv hd hcd) pa_nil hs) hs, fun S H σ τ R' R q => ?_⟩
  unfold dEnumN at q
  cases e1 : τ.sl[i]?.bind lstS with
  | none => rw [e1] at q; exact q.elim
  | some ds =>
    rw [e1] at q
    obtain ⟨a, xs, ea, ha, ka, sa⟩ := lst_still R e1
    refine ⟨.ref a, ea, a, xs, rfl, .inl ⟨SqL.of ha, q _ S H .refl R ⟨fun H => SqL X.K H a xs, _, by rw [enumD_len, ← ka.len]; exact walk_enum, fun S2 H2 s1 s2 z => SqL.of (sa S2 H2 s1 s2 z), fun j Ha y Hb d S2 e s1 s2 _ yy => ?_⟩ trivial⟩⟩
    obtain ⟨z, e1, e2⟩ := enumD_get e
    refine yok_pair yy (d1 := .int ((0 + j : Nat) : Int)) (d2 := z) (fun w ew => ?_) (fun w ew => ?_) e2
    · cases ew
      rw [Nat.zero_add]
      exact .int _
    · obtain ⟨d', e3, q⟩ := ka.get ew
      rw [e1] at e3
      cases e3
      exact q.mono s1

/-! ### tuple(range(a, b)) -/
def tTupRgF (te : St → Hp → (Int → Int → Hp → Prop) → Prop) : TE := fun σ H Q => te σ H fun a b H1 => RgOk a b ∧ Nw H1 (rgV a b) Q
theorem pe_tupRgF {e : Expr} {te : St → Hp → (Int → Int → Hp → Prop) → Prop} (hc : X.calm = true) (hg : Gl X "tuple") (hm : X.mg "tuple" = none) (he : PRg X e te) (na : starEach [e] X.env = (false, eval e X.env) :: starEach [] X.env := by rfl) : PE X (.Call (.Name "tuple" p) [e] [] pos) (tTupRgF te) := by
  refine ⟨fun pins s σ H Q I h => Call_ (ld_blt I hg hm boot_tuple (PyProof.Rows.callWith_type1 (args_cons (thn (he pins s σ H _ I h) fun x s1 ⟨r, lo, hi, t, u, v, H1, ex, hr, I1, ok, q⟩ => args_nil ?_) na) na))⟩
  subst ex
  obtain ⟨b1, b2, b3, b4, b5⟩ := ok
  refine call_tuple_range (n := (hi - lo).toNat) (I1.ok.hd hc) hr (small_one b1 b2 b3 b4) (rangeSize_nat lo hi) b5 fun h' tk acc keep it => ?_
  have I2 : Inv X pins σ H1 { s1 with heap := h', toks := tk } := I1.kept keep
  exact laidF I2 (vals_rg it) (by rw [rgV_length, sizeLine_eq]; omega) (fun z o w => Heap.get?_push_of_some _ w) (Nat.le_refl _) (by rw [Array.toArray_toList]; exact Heap.get?_push_size _ rfl) q
def rgD (a b : Int) : List Int := (List.range (b - a).toNat).map fun i => a + (i : Nat)
def dTupRg {R : Rsc} (ga gb : Den R) : Den R := fun τ => (ga τ).bind fun p => (gb p.2).bind fun q => match p.1.int, q.1.int with
  | some i, some j => if 0 ≤ i ∧ i ≤ 100000 ∧ 0 ≤ j ∧ j ≤ 100000 then .ok (.sh (.tuple (nsD (rgD i j))), q.2) else .bad
  | _, _ => .bad
theorem de_tupRg {p2 pos2 : Pos} (hc : X.calm = true) (hg : Gl X "tuple") (hm : X.mg "tuple" = none) (hg2 : Gl X "range") (hm2 : X.mg "range" = none) (ha : DE B X a ta ga) (hb : DE B X b tb gb)
    (na : starEach [.Call (.Name "range" p2) [a, b] [] pos2] X.env = (false, eval (.Call (.Name "range" p2) [a, b] [] pos2) X.env) :: starEach [] X.env := by rfl)
    (n1 : starEach [a, b] X.env = (false, eval a X.env) :: starEach [b] X.env := by rfl) (n2 : starEach [b] X.env = (false, eval b X.env) :: starEach [] X.env := by rfl) (n3 : (backTo pos2 (starEach [b] X.env)).any (·.1) = false := by rfl) :
    DE B X (.Call (.Name "tuple" p) [.Call (.Name "range" p2) [a, b] [] pos2] [] pos) (tTupRgF (tRg2 ta tb)) (dTupRg ga gb) := by
  refine ⟨pe_tupRgF hc hg hm (prg_2 hg2 hm2 ha.pe hb.pe n1 n2 n3) na, fun S H σ τ Q R q => ?_⟩
  refine ha.sd S H σ τ _ R (Sat.step q fun val τ1 v S1 H1 _ G1 R1 o1 _ q1 => hb.sd S1 H1 σ τ1 _ R1 (Sat.step q1 fun val2 τ2 w S2 H2 _ G2 R2 o2 _ q2 => ?_))
  simp only at q2
  split at q2
  · rename_i i j e1 e2
    obtain ⟨rfl, _⟩ := VOk.int o1 e1
    obtain ⟨rfl, _⟩ := VOk.int o2 e2
    by_cases hz : 0 ≤ i ∧ i ≤ 100000 ∧ 0 ≤ j ∧ j ≤ 100000
    · rw [if_pos hz] at q2
      refine ⟨i, j, rfl, rfl, RgOk.of_le hz.1 (by omega) (by omega) hz.2.2.1, fun t o ht ho => ?_⟩
      have ev : rgV i j = (rgD i j).map V.int := by
        unfold rgV rgD
        rw [List.map_map]
        rfl
      rw [ev]
      obtain ⟨g2, r2, k2⟩ := lay_tup R2 ht ho (DqA.ints_ S2 (rgD i j))
      exact q2 _ _ _ g2 r2 k2 frS
    · rw [if_neg hz] at q2
      exact q2.elim
  · exact q2.elim

/-! ### xs[i], y, z = a, b, c -/
def dAsg3 {R : Rsc} (i : Nat) (gi : Den R) (j l : Nat) (g1 g2 g3 : Den R) : DenS R := fun τ => (g1 τ).bind fun p1 => (g2 p1.2).bind fun p2 => (g3 p2.2).bind fun p3 => match p1.1, p2.1, p3.1, p3.2.sl[i]? with
  | .sh d1, .sh d2, .sh d3, some (.ow _) => (gi p3.2).bind fun q => match q.1.int, q.2.sl[i]? with
    | some x, some (.ow ds) => match ixN ds.length x with
      | some m => if j < q.2.sl.length ∧ l < q.2.sl.length then .ok (.nx (((q.2.put i (.ow (ds.set m d1))).put j (.sh d2)).put l (.sh d3))) else .bad
      | none => .bad
    | _, _ => .bad
  | _, _, _, _ => .bad
theorem ds_asg3 (i j l : Nat) {x y z : Str} {p1 p2 py pz pt pv : Pos} {ix : Expr} {ti : TE} {gi : Den B.R} {kt k2 : Nat} (hc : X.calm = true) (hNd : X.N.Nodup) (hix : DE B X ix ti gi) (ha : DE B X a ta ga) (hb : DE B X b tb gb) (h3 : DE B X c tc gc)
    (hN : X.N[i]? = some x := by rfl) (hy : X.N[j]? = some y := by rfl) (hz : X.N[l]? = some z := by rfl) (hv : Vis X.env.scope x := by first | exact Or.inl rfl | exact Or.inr (Or.inl rfl) | exact Or.inr (Or.inr rfl))
    (ly : Loc X.env.scope y := by first | exact .inl rfl | exact .inr rfl) (lz : Loc X.env.scope z := by first | exact .inl rfl | exact .inr rfl)
    (fy : X.fn y = true ∨ X.env.scope.names.lookup y = some .local := by first | exact .inl rfl | exact .inr rfl) (fz : X.fn z = true ∨ X.env.scope.names.lookup z = some .local := by first | exact .inl rfl | exact .inr rfl)
    (n1 : starEach [a, b, c] X.env = (false, eval a X.env) :: starEach [b, c] X.env := by rfl) (n2 : starEach [b, c] X.env = (false, eval b X.env) :: starEach [c] X.env := by rfl) (n3 : starEach [c] X.env = (false, eval c X.env) :: starEach [] X.env := by rfl)
    (hasg : ∀ v, assign (.Subscript (.Name x p1) ix p2) X.env v = (do
      let ov ← holding [v] (eval (.Name x p1) X.env)
      let iv ← holding [v, ov] (eval ix X.env)
      standAt p2
      holding [v, ov, iv] (setItem ov iv v)
      release [v, ov, iv] []) := by intro _; rfl)
    (m1 : (assignEach [.Subscript (.Name x p1) ix p2, .Name y py, .Name z pz] X.env).map (·.2) = assign (.Subscript (.Name x p1) ix p2) X.env :: (assignEach [.Name y py, .Name z pz] X.env).map (·.2) := by rfl)
    (m2 : (assignEach [.Name y py, .Name z pz] X.env).map (·.2) = assign (.Name y py) X.env :: (assignEach [.Name z pz] X.env).map (·.2) := by rfl)
    (m3 : (assignEach [.Name z pz] X.env).map (·.2) = assign (.Name z pz) X.env :: (assignEach [] X.env).map (·.2) := by rfl)
    (hn : (assignEach [.Subscript (.Name x p1) ix p2, .Name y py, .Name z pz] X.env).length = 3 := by rfl) (hst : (assignEach [.Subscript (.Name x p1) ix p2, .Name y py, .Name z pz] X.env).findIdx? (·.1) = none := by rfl)
    (hs : swapsWithSole [.Tuple [.Subscript (.Name x p1) ix p2, .Name y py, .Name z pz] kt pt] (.Tuple [a, b, c] k2 pv) pos.line X.env = pure false := by rfl) (hw : swappedStores [.Tuple [.Subscript (.Name x p1) ix p2, .Name y py, .Name z pz] kt pt] (.Tuple [a, b, c] k2 pv) X.env = pure none := by rfl)
    (h1 : (assignEach [.Tuple [.Subscript (.Name x p1) ix p2, .Name y py, .Name z pz] kt pt] X.env).map (·.2) = [assign (.Tuple [.Subscript (.Name x p1) ix p2, .Name y py, .Name z pz] kt pt) X.env] := by rfl)
    (hd : (x == ("__debug__" : Str)) = false := by decide) (hcd : (x == ("__classdict__" : Str)) = false := by decide) (hK : X.K = K := by rfl) :
    DS B X (.Assign [.Tuple [.Subscript (.Name x p1) ix p2, .Name y py, .Name z pz] kt pt] (.Tuple [a, b, c] k2 pv) pos) (tAsg (tTupF (tCons ta (tCons tb (tCons tc tNil)))) (gTup K 3 (gCons (gSub (tVar i) ti rSetL) (gCons (gName j) (gCons (gName l) gNil))))) (dAsg3 i gi j l ga gb gc) := by
  subst hK
  refine ⟨ps_asg (pe_tupF (pa_cons ha.pe (pa_cons hb.pe (pa_cons h3.pe pa_nil n3) n2) n1)) (pg_tup hc (pgs_cons (pg_sub (pe_var hN hv hd hcd) hix.pe set_list hasg) (pgs_cons (pg_name hNd hy ly fy) (pgs_cons (pg_name hNd hz lz fz) pgs_nil m3) m2) m1) hn hst) hs hw h1, fun S H σ τ D R q => ?_⟩
  refine ha.sd S H σ τ _ R (sat_e q fun val1 τ1 v1 S1 H1 x1 G1 R1 o1 f1 q1 => hb.sd S1 H1 σ τ1 _ R1 (sat_e q1 fun val2 τ2 v2 S2 H2 x2 G2 R2 o2 f2 q2 => h3.sd S2 H2 σ τ2 _ R2 (sat_e q2 fun val3 τ3 v3 S3 H3 x3 G3 R3 o3 f3 q3 => ?_)))
  simp only at q3
  split at q3
  · rename_i d1 d2 d3 ds0 e0
    have k1 : Dq S3 v1 d1 := Dq.mono (G2.s.trans G3.s) o1
    have k2 : Dq S3 v2 d2 := Dq.mono G3.s o2
    have k3 : Dq S3 v3 d3 := o3
    refine ⟨by show 3 ≤ sizeLine; decide, fun T o hT ho => ?_⟩
    obtain ⟨g4, R4, _⟩ := lay_tup R3 hT ho (.cons k1 (.cons k2 (.cons k3 .nil)))
    have s4 := g4.s
    obtain ⟨a', vs, ea, w1, w2, _⟩ := R4.setOw e0
    refine ⟨T, [v1, v2, v3], rfl, sqtF upd_same, rfl, v1, [v2, v3], rfl, .ref a', ea, hix.sd _ _ σ τ3 _ R4 (sat_e (SatS.mono q3 s4) fun val τ5 w S5 H5 _ G5 R5 o5 _ q5 => ?_)⟩
    simp only at q5
    split at q5
    · rename_i x5 ds e4 e5
      obtain ⟨rfl, _⟩ := VOk.int o5 e4
      obtain ⟨a2, ws, ea2, u1, u2, up⟩ := R5.setOw e5
      rw [ea] at ea2
      cases ea2
      split at q5
      · rename_i m em
        by_cases hz : j < τ5.sl.length ∧ l < τ5.sl.length
        · rw [if_pos hz] at q5
          have s5 := s4.trans G5.s
          have R6 := up _ _ (DqA.set (Dq.mono s5 k1) m u2)
          have R7 := R6.store (i := j) (val := .sh d2) (v := v2) (Dq.mono s5 k2) rfl (by show j < (τ5.sl.set i _).length; rw [List.length_set]; exact hz.1)
          have R8 := R7.store (i := l) (val := .sh d3) (v := v3) (Dq.mono s5 k3) rfl (by show l < ((τ5.sl.set i _).set j _).length; rw [List.length_set, List.length_set]; exact hz.2)
          exact ⟨a', ws, x5, m, rfl, rfl, u1, by rw [u2.len]; exact em, v2, [v3], rfl, v3, [], rfl, rfl, q5 S5 _ _ (Same.refl _) R8⟩
        · rw [if_neg hz] at q5
          exact q5.elim
      · exact q5.elim
    · exact q5.elim
  · exact q3.elim
end
@[simp] theorem ev_dDNew {R : Rsc} (τ : Tau R) : dDNew τ = .ok (.fd [], τ) := rfl
@[simp] theorem ev_dDOne {R : Rsc} (k x : Int) (τ : Tau R) : dDOne k x τ = .ok (.fd [(k, .int x)], τ) := rfl
@[simp] theorem ev_dDGet {R : Rsc} (i : Nat) (g h : Den R) (τ : Tau R) : dDGet i g h τ = (match τ.sl[i]? with
  | some (.od _) => (g τ).bind fun p => match p.1.int with
    | some k => (h p.2).bind fun q => match q.1, q.2.sl[i]? with
      | .sh d, some (.od l) => .ok (.sh ((valI l k).getD d), q.2)
      | _, _ => .bad
    | none => .bad
  | _ => .bad) := rfl
@[simp] theorem ev_dDPut {R : Rsc} (i : Nat) (g h : Den R) (τ : Tau R) : dDPut i g h τ = ((g τ).bind fun p => match p.1, p.2.sl[i]? with
  | .sh d, some (.od _) => (h p.2).bind fun q => match q.1.int, q.2.sl[i]? with
    | some k, some (.od l) => if l.length < sizeLine then .ok (.nx (q.2.put i (.od (putI l k d)))) else .bad
    | _, _ => .bad
  | _, _ => .bad) := rfl
@[simp] theorem ev_dEnumN {R : Rsc} (i : Nat) (τ : Tau R) : (dEnumN i τ : Out (Exn R) _) = (match τ.sl[i]?.bind lstS with
  | some ds => .ok (enumD 0 ds, τ)
  | none => .bad) := rfl
@[simp] theorem ev_dTupRg {R : Rsc} (ga gb : Den R) (τ : Tau R) : dTupRg ga gb τ = ((ga τ).bind fun p => (gb p.2).bind fun q => match p.1.int, q.1.int with
  | some i, some j => if 0 ≤ i ∧ i ≤ 100000 ∧ 0 ≤ j ∧ j ≤ 100000 then .ok (.sh (.tuple (nsD (rgD i j))), q.2) else .bad
  | _, _ => .bad) := rfl
end Kn
set_option Elab.async false
set_option linter.all false
set_option maxRecDepth 100000
set_option maxHeartbeats 4000000
namespace Kn
open PySem PySem.Spec L2
open PyProof.Rows hiding St
/-! ### comprehensions over what the frame itself owns: while the block runs nothing is changed -/
structure ItOkO (B : Bs) (l : Bool) (J : It) (S H : Hp) (items : List PyData) : Prop where
  ex : ∃ (G : Hp → Prop) (Y : Nat → Hp → V → Hp → Prop), Walk J items.length G Y ∧ (∀ S2 H2, Same S S2 → Same S2 H2 → (∀ b o, ¬ B.R.M b → B.H0 b = some o → H2 b = some o) → (∀ b o, ¬ B.R.M b → H b = some o → H2 b = some o) → G H2) ∧
    ∀ i H1 x H1' d S1, items[i]? = some d → Same S S1 → Same S1 H1 → (∀ b o, ¬ B.R.M b → B.H0 b = some o → H1 b = some o) → (∀ b o, ¬ B.R.M b → H b = some o → H1 b = some o) → Y i H1 x H1' → YOk l S1 H1 x H1' d
def okIO (B : Bs) (l : Bool) (σ : St) : Okk B σ It (List PyData) := ⟨fun S H _ J items => ItOkO B l J S H items, fun _ _ _ _ => True, fun _ _ => trivial⟩
def SndIO (B : Bs) (l : Bool) (wi : TI) (g : DenI B.R) : Prop := ∀ S H σ (τ : Tau B.R) R', Rel B S H σ τ → Sat B (okIO B l σ) S H τ (g τ) R' → wi σ H R'
structure DIO (B : Bs) (l : Bool) (X : Cx) (tg iter : Expr) (wi : TI) (g : DenI B.R) : Prop where
  pe : PI X tg iter wi
  sd : SndIO B l wi g
section
variable {X : Cx} {B : Bs} {a b c e e2 tg : Expr} {es rest : List Expr} {ta tb tc te : TE} {ga gb gc ge : Den B.R} {pos : Pos} {k : Nat} {t : TA} {g : DenA B.R} {K : PySem.W.Frag}
theorem snd_lcO {lz : Bool} {wi : TI} {g : TG} {tt : TT} {te : TE} {gi : DenI B.R} {set : SetD B.R} {is vs : List Nat} {gt : DenT B.R} {ge : Den B.R} (hi : SndIO B lz wi gi) (hg : SndG B lz g set is) (ht : SndT B tt gt) (he : SndE B te ge) (his : ∀ i ∈ is, i ∈ vs) :
    SndE B (tLc wi g tt te vs) (dLc gi set gt ge vs) := by
  intro S H σ τ Q R h
  refine hi S H σ τ _ R (Sat.step (f := fun p => if p.1.length ≤ sizeLine then (lcGo set gt ge vs p.1 [] (p.2.wipe vs)).bind fun q => .ok (Val.fr q.1, q.2) else .bad) h fun items τ1 J S1 H1 _ G1 R1 o1 _ h1 => ?_)
  by_cases hz : items.length ≤ sizeLine
  · rw [if_pos hz] at h1
    obtain ⟨Gp, Y, W, hG, hY⟩ := o1
    intro D hD
    have agree : ∀ k, k ∉ vs → (wipe σ vs)[k]? = σ[k]? := fun k n => by rw [wipe_get, if_neg n]
    have agree' : ∀ k, k ∉ vs → σ[k]? = (wipe σ vs)[k]? := fun k n => (agree k n).symm
    obtain ⟨g2, r2, k2, f2⟩ := lay_lst R1 (vs := []) (ds := []) hD .nil
    have own1 : ∀ b, Own σ (τ1.wipe vs).sl b → Own σ τ1.sl b := fun b o => own_off (σ := σ) (fun _ _ => rfl) o
    refine lc_it W (fun i H' => ∃ S' τi acc, Gro B σ S1 H1 τ1.sl S' H' τi.sl ∧ Rel B S' H' (wipe σ vs) τi ∧ Uns vs τi.sl ∧ VOk B S' H' σ τi.sl (.ref D) (.fr acc) ∧ acc.length ≤ i ∧
      Sat B (okV B σ) S1 H1 τ1 ((lcGo set gt ge vs (items.drop i) acc τi).bind fun q => .ok (Val.fr q.1, q.2)) Q)
      ⟨S1, τ1.wipe vs, [], ⟨g2.s, g2.h, g2.n, own1⟩, r2.off (wipe_length ..) agree, uns_wipe _ _, VOk.gro (⟨Same.refl _, fun _ _ _ e => e, fun _ _ e => .inl e, own1⟩ : Gro B σ S1 (upd H1 D (.lst [])) τ1.sl S1 (upd H1 D (.lst [])) (τ1.wipe vs).sl) k2, Nat.le_refl _, h1⟩
      (fun i H' _ ⟨S', τi, acc, ga, ra, _⟩ => hG S' H' ga.s ra.sub ra.ent ga.h) (fun i x Ha Hb hi pv y => ?_) (fun H' pv => ?_)
    · obtain ⟨S', τi, acc, ga, ra, ua, ka, la, sa⟩ := pv
      have hd : items[i]? = some items[i] := List.getElem?_eq_getElem hi
      have ey : YOk lz S' Ha x Hb items[i] := hY i Ha x Hb _ S' hd ga.s ra.sub ra.ent ga.h y
      obtain ⟨gb, rb, kb⟩ := yok_lay ra ey
      rw [List.drop_eq_getElem_cons hi] at sa
      unfold lcGo at sa
      cases es : set items[i] τi with
      | none =>
        simp only [es] at sa
        exact sa.elim
      | some τ2 =>
        simp only [es] at sa
        refine hg S' Hb (wipe σ vs) τi x _ τ2 _ rb kb es fun σ2 R2 l2 w2 ow2 => ⟨by rw [w2 vs his, wipe_idem], ?_⟩
        have l2' : σ2.length = σ.length := by rw [l2, wipe_length]
        have agree2 : ∀ k, k ∉ vs → σ2[k]? = σ[k]? := fun k n => wipe_agree l2' (by rw [w2 vs his, wipe_idem]) n
        have owA : ∀ b, Own (wipe σ vs) τi.sl b → Own σ τi.sl b := fun b o => own_uns agree ua o
        have owB : ∀ b, Own σ τi.sl b → Own (wipe σ vs) τi.sl b := fun b o => own_uns agree' ua o
        -- back at the block's slots behind a turn
        have back : ∀ {S4 H4 : Hp} {τ4 : Tau B.R}, Rel B S4 H4 σ2 τ4 → Rel B S4 H4 (wipe σ vs) (τ4.wipe vs) := fun {S4 H4 τ4} r4 =>
          r4.off (by rw [wipe_length, l2']) (fun k n => by rw [agree k n, agree2 k n])
        have grow : ∀ {S4 H4 : Hp} {τ4 : Tau B.R}, Gro B σ2 S' Hb τ2.sl S4 H4 τ4.sl → Gro B σ S' Ha τi.sl S4 H4 (τ4.wipe vs).sl := fun {S4 H4 τ4} g4 => by
          have c1 : Gro B σ S' Ha τi.sl S' Hb τi.sl := gb.conv owA owB
          refine c1.trans (g4.conv (fun b o => owA b (ow2 b o)) fun b o => own_off (fun k n => (agree2 k n).symm) o)
        cases et : gt τ2 with
        | bad =>
          rw [et] at sa
          exact sa.elim
        | exc x =>
          rw [et] at sa
          exact ht S' Hb σ2 τ2 _ R2 (by rw [et]; exact ExcOk.mono (show ExcOk B S1 x from sa) ga.s)
        | ok p =>
          obtain ⟨b, τ3⟩ := p
          rw [et] at sa
          simp only [Out.bind_ok] at sa
          refine ht S' Hb σ2 τ2 _ R2 ?_
          rw [et]
          intro b' S3 H3 G3 R3 eb _
          have eb : b' = b := eb
          subst eb
          cases b' with
          | false =>
            simp only [Bool.false_eq_true, if_false] at sa ⊢
            have g5 := grow G3
            exact ⟨S3, τ3.wipe vs, acc, ga.trans g5, back R3, uns_wipe _ _, VOk.gro g5 ka, Nat.le_succ_of_le la, sa⟩
          | true =>
            simp only [if_true] at sa ⊢
            cases ee : ge τ3 with
            | bad =>
              rw [ee] at sa
              exact sa.elim
            | exc x =>
              rw [ee] at sa
              exact he S3 H3 σ2 τ3 _ R3 (by rw [ee]; exact ExcOk.mono (show ExcOk B S1 x from sa) (ga.s.trans G3.s))
            | ok p =>
              obtain ⟨val, τ4⟩ := p
              rw [ee] at sa
              simp only [Out.bind_ok] at sa
              refine he S3 H3 σ2 τ3 _ R3 ?_
              rw [ee]
              intro y S4 H4 G4 R4 ky _
              cases val with
              | sh yd =>
                have ky : Dq S4 y yd := ky
                have g5 := grow (G3.trans G4)
                obtain ⟨p, ws, eD, h1', h2', h3', h4', h5', h6'⟩ := VOk.gro g5 ka
                cases eD
                have lacc : ws.length = acc.length := h6'.len
                refine ⟨ws, h1', by rw [lacc]; omega, S4, τ4.wipe vs, acc ++ [yd], ?_, (back R4).updFr h1' h2' h3' h4' (fun o => h5' (own_uns agree (uns_wipe _ _) o)), uns_wipe _ _, ⟨D, ws ++ [y], rfl, upd_same, h2', h3', h4', h5', h6'.append (.cons ky .nil)⟩, by rw [List.length_append]; exact Nat.succ_le_succ la, sa⟩
                have g6 := ga.trans g5
                exact ⟨g6.s, fun b o m e => by rw [upd_ne (ne_of_none e hD)]; exact g6.h b o m e, g6.n, g6.o⟩
              | _ => exact sa.elim
    · obtain ⟨S', τi, acc, ga, ra, ua, ka, la, sa⟩ := pv
      rw [List.drop_length] at sa
      have q := R1.hnone hD
      exact sa (.ref D) S' H' ga (ra.offU (by rw [wipe_length]) agree' ua) ka (frN q.2.2.1 hD)
  · rw [if_neg hz] at h1
    exact h1.elim
theorem de_lcO {lz : Bool} {elt tg iter : Expr} {ifs : List Expr} {scope : Scope} {own : List (Str × Nat)} {pos : Pos} {wi : TI} {g : TG} {tt : TT} {te : TE} {gi : DenI B.R} {set : SetD B.R} {is : List Nat} {gt : DenT B.R} {ge : Den B.R}
    (hc : X.calm = true) (hN : X.N.Nodup) (hi : DIO B lz X tg iter wi gi) (ok : BlkOk X.N X.env.scope scope own)
    (hg : ∀ (s : Shared) (H : Hp) (C : Addr) (cl : List (Str × Addr)) (fp : List Addr), DG B lz (X.blk s H scope (compEnvC scope cl C X.env) fp) tg g set is) (ht : ∀ (s : Shared) (H : Hp) (C : Addr) (cl : List (Str × Addr)) (fp : List Addr), DTs B (X.blk s H scope (compEnvC scope cl C X.env) fp) ifs tt gt)
    (he : ∀ (s : Shared) (H : Hp) (C : Addr) (cl : List (Str × Addr)) (fp : List Addr), DE B (X.blk s H scope (compEnvC scope cl C X.env) fp) elt te ge) (his : ∀ i ∈ is, i ∈ own.map (·.2)) (hs : ∀ x, foldedSetIterable iter X.env x = pure x := by intro _; rfl) :
    DE B X (.ListComp elt [⟨tg, iter, ifs, 0⟩] scope pos) (tLc wi g tt te (own.map (·.2))) (dLc gi set gt ge (own.map (·.2))) :=
  ⟨pe_lc hc hN hi.pe ok (fun s H C cl fp => (hg s H C cl fp).pe) (fun s H C cl fp => (ht s H C cl fp).pe) (fun s H C cl fp => (he s H C cl fp).pe) hs,
    snd_lcO hi.sd (hg X.s_0 X.H_0 0 [] []).sd (ht X.s_0 X.H_0 0 [] []).sd (he X.s_0 X.H_0 0 [] []).sd his⟩

/-- zip(x, e), x an own list -/
def dZipO {R : Rsc} (i : Nat) (g : Den R) : DenI R := fun τ => match τ.sl[i]? with
  | some (.ow _) => (g τ).bind fun p => match p.1, p.2.sl[i]? with
    | .sh (.list ys), some (.ow xs) => .ok (List.zipWith (fun a b => .tuple [a, b]) xs ys, p.2)
    | _, _ => .bad
  | _ => .bad
@[simp] theorem ev_dZipO {R : Rsc} (i : Nat) (g : Den R) (τ : Tau R) : dZipO i g τ = (match τ.sl[i]? with
  | some (.ow _) => (g τ).bind fun p => match p.1, p.2.sl[i]? with
    | .sh (.list ys), some (.ow xs) => .ok (List.zipWith (fun a b => .tuple [a, b]) xs ys, p.2)
    | _, _ => .bad
  | _ => .bad) := rfl
theorem bi_zipO (i : Nat) {x : Str} {p p1 tpos : Pos} {elts : List Expr} {kk : Nat} (hg : Gl X "zip") (hm : X.mg "zip" = none) (hb : DE B X b tb gb)
    (hN : X.N[i]? = some x := by rfl) (hv : Vis X.env.scope x := by first | exact Or.inl rfl | exact Or.inr (Or.inl rfl) | exact Or.inr (Or.inr rfl))
    (hs : starEach [.Name x p1, b] X.env = (false, eval (.Name x p1) X.env) :: starEach [b] X.env := by rfl) (hs2 : starEach [b] X.env = (false, eval b X.env) :: starEach [] X.env := by rfl) (hpl : (backTo pos (starEach [b] X.env)).any (·.1) = false := by rfl) (hK : X.K = K := by rfl)
    (hd : (x == ("__debug__" : Str)) = false := by decide) (hcd : (x == ("__classdict__" : Str)) = false := by decide) :
    DIO B true X (.Tuple elts kk tpos) (.Call (.Name "zip" p) [.Name x p1, b] [] pos) (RZ.iZipA K (tCons (tVar i) (tCons tb tNil))) (dZipO i gb) := by
  subst hK
  refine ⟨RZ.pi_zipA hg hm (pa_cons (pe_var hN hv hd hcd) (pa_cons hb.pe pa_nil hs2) hs) hs hpl, fun S H σ τ R' R q => ?_⟩
  unfold dZipO at q
  split at q
  · rename_i ds0 e0
    obtain ⟨a, vs0, ea, _⟩ := R.setOw e0
    refine ⟨.ref a, ea, hb.sd S H σ τ _ R (Sat.step q fun val τ1 v S1 H1 x1 G1 R1 o1 f1 h1 => ?_)⟩
    simp only at h1
    split at h1
    · rename_i es ds e1
      obtain ⟨a', xs, ea', ha, ka, _⟩ := R1.setOw e1
      have nM : ¬ B.R.M a' := by
        obtain ⟨_, _, w1, _, _, _, w2, _⟩ := R1.sl i _ e1
        rw [ea'] at w1
        cases w1
        exact w2
      rw [ea] at ea'
      cases ea'
      have o1 : Dq S1 v (.list es) := o1
      cases o1 with
      | lst hb' kb =>
        rename_i b' ys
        have hl : (List.zipWith (fun a b => PyData.tuple [a, b]) ds es).length = min xs.length ys.length := by rw [List.length_zipWith, ka.len, kb.len]
        refine ⟨a, b', xs, ys, rfl, .inl ⟨SqL.of ha, SqL.of (R1.sub _ _ hb'), h1 _ S1 H1 .refl R1 ⟨fun H => SqL X.K H a xs ∧ SqL X.K H b' ys, _, walk_zip hl, fun S2 H2 s1 s2 _ z => ⟨SqL.of (z _ _ nM ha), SqL.of (s2 _ _ (s1 _ _ hb'))⟩, fun i Ha x Hb d S2 e s1 s2 _ _ y => ?_⟩ trivial⟩⟩
        rw [List.getElem?_zipWith] at e
        cases q1 : ds[i]? with
        | none => rw [q1] at e; cases e
        | some d1 =>
          cases q2 : es[i]? with
          | none => rw [q1, q2] at e; cases e
          | some d2 =>
            rw [q1, q2] at e
            refine yok_pair y (d1 := d1) (d2 := d2) (fun w ew => ?_) (fun w ew => ?_) (Option.some.inj e).symm
            · obtain ⟨d', e3, q⟩ := ka.get ew
              rw [q1] at e3
              cases e3
              exact q.mono s1
            · obtain ⟨d', e3, q⟩ := kb.get ew
              rw [q2] at e3
              cases e3
              exact q.mono s1
    · exact h1.elim
  · exact q.elim
end
end Kn
set_option Elab.async false
set_option linter.all false
set_option maxRecDepth 100000
set_option maxHeartbeats 4000000
namespace Kn
open PySem PySem.Spec L2
open PyProof.Rows hiding St
/-! ### [elt for tg in iter for tg1 in iter1] -/
def lc2Go {R : Rsc} (set : SetD R) (gi1 : DenI R) (set1 : SetD R) (ge : Den R) (vs vs1 : List Nat) : List PyData → List PyData → Tau R → Out (Exn R) (List PyData × Tau R)
  | [], acc, τ => .ok (acc, τ)
  | d :: ds, acc, τ => match set d τ with
    | none => .bad
    | some τ1 => (gi1 τ1).bind fun p => if acc.length + p.1.length ≤ sizeLine then (lcGo set1 dYes ge vs1 p.1 acc (p.2.wipe vs1)).bind fun q => lc2Go set gi1 set1 ge vs vs1 ds q.1 (q.2.wipe vs) else .bad
def dLc2 {R : Rsc} (gi : DenI R) (set : SetD R) (gi1 : DenI R) (set1 : SetD R) (ge : Den R) (vs vs1 : List Nat) : Den R := fun τ => (gi τ).bind fun p => (lc2Go set gi1 set1 ge vs vs1 p.1 [] (p.2.wipe vs)).bind fun q => .ok (.fr q.1, q.2)
section
variable {B : Bs} {S1 H1 S4 H4 H5 S6 H6 : Hp} {σ σ3 : St} {sl1 slX slY sl5 sl6 : List Sl}
theorem gro_base (ga : Gro B σ S1 H1 sl1 S4 H4 slX) (hh : ∀ b o, ¬ B.R.M b → H4 b = some o → H5 b = some o) (g5 : Gro B σ3 S4 H5 sl5 S6 H6 sl6) (ho : ∀ b, Own σ3 sl5 b → Own σ sl1 b) (hy : ∀ b, Own σ slY b → Own σ sl1 b) : Gro B σ S1 H1 sl1 S6 H6 slY where
  s := ga.s.trans g5.s
  h := fun b o m e => g5.h b o m (hh b o m (ga.h b o m e))
  n := fun b o e => by
    rcases g5.n b o e with e | ⟨m, e⟩
    · exact ga.n b o e
    · refine .inr ⟨m, ?_⟩
      rcases e with e | e
      · left
        cases q : H1 b with
        | none => rfl
        | some u =>
          rw [hh b u m (ga.h b u m q)] at e
          cases e
      · exact .inr (ho b e)
  o := hy
end
section
variable {X : Cx} {B : Bs}
theorem yes_ok {σ : St} {H : Hp} {P1 P2 : Hp → Prop} (h : P1 H) : tYes σ H (fun b H3 => if b = true then P1 H3 else P2 H3) := by
  show (if true = true then P1 H else P2 H)
  rw [if_pos rfl]
  exact h
theorem snd_lc2 {lz lz1 : Bool} {wi wi1 : TI} {g g1 : TG} {te : TE} {gi gi1 : DenI B.R} {set set1 : SetD B.R} {is is1 vs vs1 : List Nat} {ge : Den B.R} (hi : SndI B lz wi gi) (hg : SndG B lz g set is) (hi1 : SndI B lz1 wi1 gi1) (hg1 : SndG B lz1 g1 set1 is1) (he : SndE B te ge) (his : ∀ i ∈ is, i ∈ vs) (his1 : ∀ i ∈ is1, i ∈ vs1) (hv : ∀ i ∈ vs1, i ∈ vs) :
    SndE B (tLc2 wi g tYes wi1 g1 tYes te vs vs1) (dLc2 gi set gi1 set1 ge vs vs1) := by
  intro S H σ τ Q R h
  refine hi S H σ τ _ R (Sat.step (f := fun p => (lc2Go set gi1 set1 ge vs vs1 p.1 [] (p.2.wipe vs)).bind fun q => .ok (Val.fr q.1, q.2)) h fun items τ1 J S1 H1 _ G1 R1 o1 _ h1 => ?_)
  obtain ⟨Gp, Y, W, hG, hY⟩ := o1
  intro D hD
  obtain ⟨qS, qH, qM, qO⟩ := R1.hnone hD
  have agree : ∀ k, k ∉ vs → (wipe σ vs)[k]? = σ[k]? := fun k n => by rw [wipe_get, if_neg n]
  have agree' : ∀ k, k ∉ vs → σ[k]? = (wipe σ vs)[k]? := fun k n => (agree k n).symm
  obtain ⟨g2, r2, _, _⟩ := lay_lst R1 (vs := []) (ds := []) hD .nil
  have own1 : ∀ b, Own σ (τ1.wipe vs).sl b → Own σ τ1.sl b := fun b o => own_off (σ := σ) (fun _ _ => rfl) o
  obtain ⟨Pv, hPv⟩ : ∃ Pv : Nat → Hp → Prop, Pv = fun i H' => ∃ S' τi acc, Gro B σ S1 H1 τ1.sl S' H' τi.sl ∧ Rel B S' H' (wipe σ vs) τi ∧ Uns vs τi.sl ∧ (∃ ws, H' D = some (.lst ws) ∧ S' D = none ∧ DqA S' ws acc) ∧
      Sat B (okV B σ) S1 H1 τ1 ((lc2Go set gi1 set1 ge vs vs1 (items.drop i) acc τi).bind fun q => .ok (Val.fr q.1, q.2)) Q := ⟨_, rfl⟩
  have pv0 : Pv 0 (upd H1 D (.lst [])) := by
    rw [hPv]
    exact ⟨S1, τ1.wipe vs, [], ⟨g2.s, g2.h, g2.n, own1⟩, r2.off (wipe_length ..) agree, uns_wipe _ _, ⟨[], upd_same, qS, .nil⟩, h1⟩
  refine ⟨fun i m H' => m = items.length - i ∧ i ≤ items.length ∧ Pv i H', ⟨_, rfl, Nat.zero_le _, pv0⟩, ?_⟩
  rintro i m Ha ⟨rfl, hle, pv⟩
  rw [hPv] at pv
  obtain ⟨S', τi, acc, ga, ra, ua, ⟨ws0, k1, k2, k3⟩, sa⟩ := pv
  have qG := hG S' Ha ga.s ra.sub ra.ent
  by_cases hlt : i < items.length
  · refine .inr ⟨W.goes i Ha hlt qG, Pv (i + 1), fun H' p' => ⟨items.length - (i + 1), by omega, rfl, hlt, p'⟩, fun x Hb y => ?_⟩
    have hd : items[i]? = some items[i] := List.getElem?_eq_getElem hlt
    have ey : YOk lz S' Ha x Hb items[i] := hY i Ha x Hb _ S' hd ga.s ra.sub ra.ent (W.yields i Ha x Hb hlt qG y)
    obtain ⟨gb, rb, kb⟩ := yok_lay ra ey
    rw [List.drop_eq_getElem_cons hlt] at sa
    unfold lc2Go at sa
    cases es : set items[i] τi with
    | none =>
      simp only [es] at sa
      exact sa.elim
    | some τ2 =>
      simp only [es] at sa
      refine hg S' Hb (wipe σ vs) τi x _ τ2 _ rb kb es fun σ2 R2 l2 w2 ow2 => ⟨by rw [w2 vs his, wipe_idem], ?_⟩
      have l2' : σ2.length = σ.length := by rw [l2, wipe_length]
      have agree2 : ∀ k, k ∉ vs → σ2[k]? = σ[k]? := fun k n => wipe_agree l2' (by rw [w2 vs his, wipe_idem]) n
      have c0 : ∀ b, Own σ2 τ2.sl b → Own σ τ1.sl b := fun b o => ga.o b (own_uns agree ua (ow2 b o))
      refine yes_ok ?_
      refine hi1 S' Hb σ2 τ2 _ R2 ?_
      cases e1 : gi1 τ2 with
      | bad =>
        rw [e1] at sa
        exact sa.elim
      | exc z =>
        rw [e1] at sa
        exact ExcOk.mono (show ExcOk B S1 z from sa) ga.s
      | ok p =>
        obtain ⟨items1, τ3⟩ := p
        rw [e1] at sa
        simp only [Out.bind_ok] at sa
        intro J1 S3 H3 G3 R3 o3 _
        obtain ⟨Gp1, Y1, W1, hG1, hY1⟩ := o3
        by_cases hz : acc.length + items1.length ≤ sizeLine
        · rw [if_pos hz] at sa
          have c3 : ∀ b, Own σ2 τ3.sl b → Own σ τ1.sl b := fun b o => c0 b (G3.o b o)
          have agreeB : ∀ k, k ∉ vs1 → (wipe σ2 vs1)[k]? = σ2[k]? := fun k n => by rw [wipe_get, if_neg n]
          have agreeB' : ∀ k, k ∉ vs1 → σ2[k]? = (wipe σ2 vs1)[k]? := fun k n => (agreeB k n).symm
          have offvs : ∀ {τ : Tau B.R} {b : Addr}, Own σ (τ.wipe vs).sl b → Own σ2 τ.sl b := fun {τ b} o => own_off (fun k n => (agree2 k n).symm) o
          have off1 : ∀ {τ : Tau B.R} {b : Addr}, Own σ2 (τ.wipe vs1).sl b → Own σ2 τ.sl b := fun {τ b} o => own_off (σ := σ2) (fun _ _ => rfl) o
          obtain ⟨Pv1, hPv1⟩ : ∃ Pv1 : Nat → Hp → Prop, Pv1 = fun j H' => ∃ S4 τj accj, Same S3 S4 ∧ Gro B σ S1 H1 τ1.sl S4 H' (τj.wipe vs).sl ∧ Rel B S4 H' (wipe σ2 vs1) τj ∧ Uns vs1 τj.sl ∧ (∀ b, Own σ2 τj.sl b → Own σ τ1.sl b) ∧ (∃ ws, H' D = some (.lst ws) ∧ S4 D = none ∧ DqA S4 ws accj) ∧ accj.length ≤ acc.length + j ∧
              Sat B (okV B σ) S1 H1 τ1 (((lcGo set1 dYes ge vs1 (items1.drop j) accj τj).bind fun q => lc2Go set gi1 set1 ge vs vs1 (items.drop (i + 1)) q.1 (q.2.wipe vs)).bind fun q => .ok (Val.fr q.1, q.2)) Q := ⟨_, rfl⟩
          have keepD : ∀ {σ' : St} {Sa Hc Sb Hd' : Hp} {sla slb : List Sl} {u : HO}, Gro B σ' Sa Hc sla Sb Hd' slb → Hc D = some u → Sa D = none → (∀ b, Own σ' sla b → Own σ τ1.sl b) → Hd' D = some u ∧ Sb D = none := fun {σ' Sa Hc Sb Hd' sla slb u} G e1 e2 ho => by
            refine ⟨G.h _ _ qM e1, ?_⟩
            cases q : Sb D with
            | none => rfl
            | some v =>
              rcases G.n _ _ q with z | ⟨_, z | z⟩
              · rw [e2] at z
                cases z
              · rw [e1] at z
                cases z
              · exact absurd (ho _ z) qO
          have i0 : Pv1 0 H3 := by
            rw [hPv1]
            obtain ⟨m1, m2⟩ := keepD G3 (gb.h _ _ qM k1) k2 c0
            exact ⟨S3, τ3.wipe vs1, acc, Same.refl _, gro_base ga gb.h G3 c0 fun b o => c3 b (off1 (offvs o)), R3.off (wipe_length ..) agreeB, uns_wipe _ _, fun b o => c3 b (off1 o), ⟨ws0, m1, m2, k3.mono G3.s⟩, Nat.le_refl _, sa⟩
          refine ⟨fun j n H' => n = items1.length - j ∧ j ≤ items1.length ∧ Pv1 j H', ⟨_, rfl, Nat.zero_le _, i0⟩, ?_⟩
          rintro j n Hc ⟨rfl, hle1, p1⟩
          rw [hPv1] at p1
          obtain ⟨S4, τj, accj, s34, g4, r4, u4, o4, ⟨ws, d1, d2, d3⟩, la, sj⟩ := p1
          have q1 := hG1 S4 Hc s34 r4.sub r4.ent
          by_cases hlt1 : j < items1.length
          · refine .inr ⟨W1.goes j Hc hlt1 q1, Pv1 (j + 1), fun H' p' => ⟨items1.length - (j + 1), by omega, rfl, hlt1, p'⟩, fun x1 Hd1 y1 => ?_⟩
            have hd1 : items1[j]? = some items1[j] := List.getElem?_eq_getElem hlt1
            have ey1 : YOk lz1 S4 Hc x1 Hd1 items1[j] := hY1 j Hc x1 Hd1 _ S4 hd1 s34 r4.sub r4.ent (W1.yields j Hc x1 Hd1 hlt1 q1 y1)
            obtain ⟨gc, rc, kc⟩ := yok_lay r4 ey1
            rw [List.drop_eq_getElem_cons hlt1] at sj
            unfold lcGo at sj
            cases es1 : set1 items1[j] τj with
            | none =>
              simp only [es1] at sj
              exact sj.elim
            | some τ5 =>
              simp only [es1] at sj
              refine hg1 S4 Hd1 (wipe σ2 vs1) τj x1 _ τ5 _ rc kc es1 fun σ3 R5 l5 w5 ow5 => ⟨by rw [w5 vs1 his1, wipe_idem], ?_⟩
              have l5' : σ3.length = σ2.length := by rw [l5, wipe_length]
              have agree5 : ∀ k, k ∉ vs1 → σ3[k]? = σ2[k]? := fun k n => wipe_agree l5' (by rw [w5 vs1 his1, wipe_idem]) n
              have c5 : ∀ b, Own σ3 τ5.sl b → Own σ τ1.sl b := fun b o => o4 b (own_uns agreeB u4 (ow5 b o))
              have ey : (dYes τ5 : Out (Exn B.R) (Bool × Tau B.R)) = .ok (true, τ5) := rfl
              rw [ey] at sj
              simp only [Out.bind_ok, if_true] at sj
              refine yes_ok ?_
              refine he S4 Hd1 σ3 τ5 _ R5 ?_
              cases ee : ge τ5 with
              | bad =>
                rw [ee] at sj
                exact sj.elim
              | exc z =>
                rw [ee] at sj
                exact ExcOk.mono (show ExcOk B S1 z from sj) g4.s
              | ok p =>
                obtain ⟨val, τ6⟩ := p
                rw [ee] at sj
                simp only [Out.bind_ok] at sj
                intro y6 S6 H6 G6 R6 ky _
                cases val with
                | sh yd =>
                  have ky : Dq S6 y6 yd := ky
                  obtain ⟨m1, m2⟩ := keepD G6 (gc.h _ _ qM d1) d2 c5
                  have c6 : ∀ b, Own σ3 τ6.sl b → Own σ τ1.sl b := fun b o => c5 b (G6.o b o)
                  have off6 : ∀ {b : Addr}, Own σ2 (τ6.wipe vs1).sl b → Own σ3 τ6.sl b := fun {b} o => own_off (fun k n => (agree5 k n).symm) o
                  have lacc : ws.length = accj.length := d3.len
                  have g7 : Gro B σ S1 H1 τ1.sl S6 H6 ((τ6.wipe vs1).wipe vs).sl := gro_base g4 gc.h G6 c5 fun b o => c6 b (off6 (offvs o))
                  have r7 : Rel B S6 H6 (wipe σ2 vs1) (τ6.wipe vs1) := R6.off (by rw [wipe_length, l5']) fun k n => by rw [agreeB k n, agree5 k n]
                  rw [hPv1]
                  refine ⟨ws, m1, by rw [lacc]; omega, S6, τ6.wipe vs1, accj ++ [yd], s34.trans G6.s, ⟨g7.s, fun b o m e => by rw [upd_ne (ne_of_none e hD)]; exact g7.h b o m e, g7.n, g7.o⟩, r7.updFr m1 m2 qM qH (fun o => qO (c6 _ (off6 (own_uns agreeB (uns_wipe _ _) o)))), uns_wipe _ _, fun b o => c6 b (off6 o), ⟨ws ++ [y6], upd_same, m2, (d3.mono G6.s).append (.cons ky .nil)⟩, by rw [List.length_append, List.length_singleton]; omega, sj⟩
                | _ => exact sj.elim
          · have ej : j = items1.length := by omega
            subst ej
            rw [List.drop_length] at sj
            refine .inl ⟨W1.stops Hc q1, ?_⟩
            rw [hPv]
            exact ⟨S4, τj.wipe vs, accj, g4, r4.off (by rw [wipe_length, wipe_length, l2']) (fun k n => by rw [agree k n, agreeB k (fun z => n (hv k z)), agree2 k n]), uns_wipe _ _, ⟨ws, d1, d2, d3⟩, sj⟩
        · rw [if_neg hz] at sa
          exact sa.elim
  · have ej : i = items.length := by omega
    subst ej
    rw [List.drop_length] at sa
    refine .inl ⟨W.stops Ha qG, ?_⟩
    exact sa (.ref D) S' Ha ga (ra.offU (by rw [wipe_length]) agree' ua) ⟨D, ws0, rfl, k1, k2, qM, qH, fun o => qO (ga.o _ o), k3⟩ (frN qM hD)
theorem de_lc2 {lz lz1 : Bool} {elt tg iter tg1 iter1 : Expr} {scope : Scope} {own : List (Str × Nat)} {vs1 : List Nat} {pos : Pos} {wi wi1 : TI} {g g1 : TG} {te : TE} {gi gi1 : DenI B.R} {set set1 : SetD B.R} {is is1 : List Nat} {ge : Den B.R}
    (hc : X.calm = true) (hN : X.N.Nodup) (hi : DI B lz X tg iter wi gi) (ok : BlkOk X.N X.env.scope scope own)
    (hg : ∀ (s : Shared) (H : Hp) (C : Addr) (cl : List (Str × Addr)) (fp : List Addr), DG B lz (X.blk s H scope (compEnvC scope cl C X.env) fp) tg g set is)
    (hi1 : ∀ (s : Shared) (H : Hp) (C : Addr) (cl : List (Str × Addr)) (fp : List Addr), DI B lz1 (X.blk s H scope (compEnvC scope cl C X.env) fp) tg1 iter1 wi1 gi1)
    (hg1 : ∀ (s : Shared) (H : Hp) (C : Addr) (cl : List (Str × Addr)) (fp : List Addr), DG B lz1 (X.blk s H scope (compEnvC scope cl C X.env) fp) tg1 g1 set1 is1)
    (he : ∀ (s : Shared) (H : Hp) (C : Addr) (cl : List (Str × Addr)) (fp : List Addr), DE B (X.blk s H scope (compEnvC scope cl C X.env) fp) elt te ge) (his : ∀ i ∈ is, i ∈ own.map (·.2)) (his1 : ∀ i ∈ is1, i ∈ vs1) (hv : ∀ i ∈ vs1, i ∈ own.map (·.2))
    (hs : ∀ x, foldedSetIterable iter X.env x = pure x := by intro _; rfl) (hs1 : ∀ env x, foldedSetIterable iter1 env x = pure x := by intro _ _; rfl) :
    DE B X (.ListComp elt [⟨tg, iter, [], 0⟩, ⟨tg1, iter1, [], 0⟩] scope pos) (tLc2 wi g tYes wi1 g1 tYes te (own.map (·.2)) vs1) (dLc2 gi set gi1 set1 ge (own.map (·.2)) vs1) :=
  ⟨pe_lc2 hc hN hi.pe ok hv (fun s H C cl fp => (hg s H C cl fp).pe) (fun _ _ _ _ _ => pts_nil) (fun s H C cl fp => (hi1 s H C cl fp).pe) (fun s H C cl fp => (hg1 s H C cl fp).pe) (fun _ _ _ _ _ => pts_nil) (fun s H C cl fp => (he s H C cl fp).pe) hs hs1,
    snd_lc2 hi.sd (hg X.s_0 X.H_0 0 [] []).sd (hi1 X.s_0 X.H_0 0 [] []).sd (hg1 X.s_0 X.H_0 0 [] []).sd (he X.s_0 X.H_0 0 [] []).sd his his1 hv⟩
end
end Kn
set_option Elab.async false
set_option linter.all false
set_option maxRecDepth 100000
set_option maxHeartbeats 4000000
namespace Kn
open PySem PySem.Spec L2
open PyProof.Rows hiding St
section
variable {X : Cx}
/-! ### sorted(d), d a dict with int keys -/
def rSortedD : List V → Hp → VK → Prop := fun vs H Q => ∃ (d : Addr) (es : List (Key × V)) (ns : List Int), vs = [V.ref d] ∧ H d = some (.dK es) ∧ es.map (·.1) = ns.map Sum.inl ∧
  ∀ (ms : List Int) (q : Addr), ms.Perm ns → ms.Pairwise (· ≤ ·) → H q = none → Q (.ref q) (upd H q (.lst (ms.map V.int)))
theorem ints_at : ∀ {us : List Value} {ns : List Int}, us.length = ns.length → (∀ (j : Nat) (u : Value), us[j]? = some u → ∃ t, u = .int (ns.getD j 0) t) → IntsAre us ns
  | [], [], _, _ => .nil
  | [], _ :: _, h, _ => by cases h
  | _ :: _, [], h, _ => by cases h
  | u :: us, n :: ns, h, f => by
    obtain ⟨t, e⟩ := f 0 u rfl
    subst e
    exact .cons n t (ints_at (by simpa using h) fun j v hv => by simpa using f (j + 1) v hv)
theorem cr_sortedD (hc : X.calm = true) : CallR X (.builtin "sorted") rSortedD := by
  intro pins s σ H vs us Q I r ⟨d, es, ns, e0, hd, hk, q⟩
  subst e0
  rw [Vals.ref1 r]
  obtain ⟨hz, lo, ws, rel, dof⟩ := dk_of I.hok hd
  obtain ⟨ep, hat⟩ := dof.dictAt
  have lw : es.length = ws.length := Paired.length rel
  have ks : ws.map (·.1) = ns.map Sum.inl := (KV.keys rel).symm.trans hk
  have ln : ws.length = ns.length := by simpa using congrArg List.length ks
  refine Calls.call_function_entry kind_sorted plain_sorted entry_sorted (args_sorted1 _) ?_
  unfold Builtin.«sorted»
  refine wpAny_bind (m := checkCount "sorted" 1 1 _) (wpAny_pure ?_)
  refine wpAny_bind (PySem.W.kdu_collect (A := X.A.in1) (PySem.W.kdl_dict (knd := mixKind X.prog X.w) (kvs := ws) (ep := ep) lo) (I.ok.hd hc) hat (by omega) fun h' tk acc kp hacc => ?_)
  have la : acc.toList.length = ns.length := by rw [Array.length_toList, hacc.1, ln]
  have hI : IntsAre acc.toList ns := ints_at la fun j u hu => by
    obtain ⟨k, x, e1, e2⟩ := hacc.2 j u (by rw [← Array.getElem?_toList]; exact hu)
    have z : (ns.map Sum.inl)[j]? = some k := by rw [← ks, List.getElem?_map, e1]; rfl
    rw [List.getElem?_map] at z
    obtain ⟨i, e3, e4⟩ := Option.map_eq_some_iff.mp z
    subst e4
    obtain ⟨t, e5⟩ := Value.isInt_shape (k := i) (v := u) e2
    exact ⟨t, by rw [e5, List.getD_eq_getElem?_getD, e3]; rfl⟩
  have hsz : acc.toList.length ≤ sizeLine := by omega
  refine wpAny_bind (wpAny_newList ?_ hsz)
  have hoL : (h'.push (seqObj "list" acc.toList.toArray 0)).get? h'.objs.size = some (seqObj "list" acc.toList.toArray 0) := Heap.get?_push_size _ rfl
  refine wpAny_bind (wpAny_holding (wpAny_call_entry slot_list_sort ⟨_, hoL, rfl⟩ entry_list_sort (SrtO.list_sort_ord SrtO.swo_int hoL hsz (fun h2 => SrtO.ints_sortable hI h2) fun out h1 h2 => ⟨_, rfl, ?_⟩) (args_list_sort _)))
  obtain ⟨k1, k2, k3⟩ := SrtO.ints_out hI h1 h2
  obtain ⟨ep2, he2⟩ := sortedHeap_at (vs := acc.toList) (out := out.toArray) hoL
  have I2 : Inv X pins σ H { s with heap := h', toks := tk } := I.kept (t' := tk) kp
  have hkeep : ∀ b o, h'.get? b = some o → (sortedHeap (h'.push (seqObj "list" acc.toList.toArray 0)) h'.objs.size acc.toList out.toArray).get? b = some o := fun b o e2 => by
    have hlt := Heap.lt_size e2
    rw [sortedHeap_old (Nat.ne_of_lt hlt) (by rw [size_push']; exact Nat.lt_succ_of_lt hlt)]
    exact Heap.get?_push_of_some _ e2
  have hlen : ((out.map SrtO.iv).map V.int).length ≤ sizeLine := by
    rw [List.length_map, k2.length_eq]
    omega
  exact wpAny_pure ⟨_, rfl, .ref h'.objs.size, upd H h'.objs.size (.lst ((out.map SrtO.iv).map V.int)), I2.laid (t' := tk) hkeep (Nat.le_refl _) ⟨hlen, out, ep2, vals_of_ints k1, he2⟩, rfl, q _ _ k2 k3 (I2.hok.fresh (Nat.le_refl _))⟩
end
section
variable {X : Cx} {B : Bs} {a b c e e2 tg : Expr} {es rest : List Expr} {ta tb tc te : TE} {ga gb gc ge : Den B.R} {pos p : Pos} {k : Nat} {t : TA} {g : DenA B.R} {K : PySem.W.Frag}
def fSortedD : List Val → Option Val
  | [a] => a.dic.map fun l => .fr (nsD (isort (l.map Prod.fst)))
  | _ => none
theorem s_sortedD : CallS B rSortedD fSortedD := by
  intro S H σ τ vs as c Q R ka e q
  cases ka with
  | nil => cases e
  | cons o r =>
    cases r with
    | cons _ _ => cases e
    | nil =>
      obtain ⟨l, e1, e2⟩ := Option.map_eq_some_iff.mp (show Option.map _ _ = some c from e)
      subst e2
      obtain ⟨d, ws, rfl, hh, kk⟩ := VOk.dict o e1
      refine ⟨d, ws, l.map Prod.fst, rfl, hh, kk.fst, fun ms t hm hp ht => ?_⟩
      have em : ms = isort (l.map Prod.fst) := sorted_one (hm.trans (isort_perm _).symm) hp (isort_sorted _)
      subst em
      obtain ⟨g2, r2, k2, f2⟩ := lay_lst R ht (DqA.ints_ S (isort (l.map Prod.fst)))
      exact q _ _ _ g2 r2 k2 f2
/-- {e: True, e': True} -/
def dDTwo {R : Rsc} (ga gb : Den R) : Den R := fun τ => (ga τ).bind fun p => (gb p.2).bind fun q => match p.1.int, q.1.int with
  | some i, some j => .ok (.fd (mergeI [] [(i, .bool true), (j, .bool true)]), q.2)
  | _, _ => .bad
@[simp] theorem ev_dDTwo {R : Rsc} (ga gb : Den R) (τ : Tau R) : dDTwo ga gb τ = ((ga τ).bind fun p => (gb p.2).bind fun q => match p.1.int, q.1.int with
  | some i, some j => .ok (.fd (mergeI [] [(i, .bool true), (j, .bool true)]), q.2)
  | _, _ => .bad) := rfl
theorem de_dtwo {j1 j2} {p1 p2 : Pos} (ha : DE B X a ta ga) (hb : DE B X b tb gb) : DE B X (.Dict [some a, some b] [.Constant (.bool true) j1 p1, .Constant (.bool true) j2 p2] pos) (tDisp [(ta, tC (.bl true)), (tb, tC (.bl true))]) (dDTwo ga gb) := by
  refine ⟨pe_disp (pps_cons ha.pe pe_bl (pps_cons hb.pe pe_bl pps_nil)) rfl rfl (by simp) (Nat.le_of_ble_eq_true rfl), fun S H σ τ Q R q t ht => ?_⟩
  obtain ⟨qS, qH, qM, qO⟩ := R.hnone ht
  have R0 := R.lay (o := .dK []) ht
  have G0 : Gro B σ S H τ.sl S (upd H t (.dK [])) τ.sl := Gro.lay R ht
  unfold dDTwo at q
  refine ha.sd S _ σ τ _ R0 ?_
  cases e1 : ga τ with
  | bad => rw [e1] at q; exact q
  | exc x => rw [e1] at q; exact q
  | ok z =>
    obtain ⟨val, τ1⟩ := z
    rw [e1] at q
    simp only [Out.bind_ok] at q
    intro v S1 H1 G1 R1 o1 _
    refine hb.sd S1 H1 σ τ1 _ R1 ?_
    cases e2 : gb τ1 with
    | bad => rw [e2] at q; exact q
    | exc x => rw [e2] at q; exact ExcOk.mono (show ExcOk B S x from q) G1.s
    | ok z =>
      obtain ⟨val2, τ2⟩ := z
      rw [e2] at q
      simp only [Out.bind_ok] at q
      intro w S2 H2 G2 R2 o2 _
      cases i1 : val.int with
      | none => simp only [i1] at q; exact q.elim
      | some i =>
        cases i2 : val2.int with
        | none => simp only [i1, i2] at q; exact q.elim
        | some j =>
          simp only [i1, i2] at q
          obtain ⟨rfl, _⟩ := VOk.int o1 i1
          obtain ⟨rfl, _⟩ := VOk.int o2 i2
          have G := G0.trans (G1.trans G2)
          have hH2 : H2 t = some (.dK []) := G2.h _ _ qM (G1.h _ _ qM upd_same)
          have hS2 : S2 t = none := by
            cases z : S2 t with
            | none => rfl
            | some u =>
              rcases (G1.trans G2).n t u z with x | ⟨_, x | x⟩
              · rw [qS] at x
                cases x
              · rw [upd_same] at x
                cases x
              · exact absurd x qO
          have hO2 : ¬ Own σ τ2.sl t := fun o => qO ((G1.trans G2).o t o)
          refine ⟨hH2, [(Sum.inl i, V.bl true), (Sum.inl j, V.bl true)], rfl, Nat.le_of_ble_eq_true rfl, ?_⟩
          have kv : KvA S2 (mergeK [] [(Sum.inl i, V.bl true), (Sum.inl j, V.bl true)]) (mergeI [] [(i, .bool true), (j, .bool true)]) := KvA.merge (.cons ⟨rfl, .bl true⟩ (.cons ⟨rfl, .bl true⟩ .nil)) .nil
          refine q (.ref t) S2 _ ⟨G.s, fun z u m x => ?_, G.n, G.o⟩ (R2.updFr hH2 hS2 qM qH hO2) ⟨t, _, rfl, upd_same, hS2, qM, qH, hO2, kv⟩ (frN qM ht)
          rw [upd_ne (ne_of_none x ht)]
          exact G.h z u m x
/-! ### sorted(xs), xs a list of tuples of ints -/
abbrev tupsD (rows : List (List Int)) : List PyData := rows.map fun ns => .tuple (nsD ns)
def asTups : List PyData → Option (List (List Int))
  | [] => some []
  | .tuple ds :: r => (asInts ds).bind fun ns => (asTups r).map (ns :: ·)
  | _ :: _ => none
theorem of_asTups : ∀ {ds : List PyData} {rows : List (List Int)}, asTups ds = some rows → ds = tupsD rows
  | [], rows, h => by
    cases h
    rfl
  | .tuple xs :: r, rows, h => by
    obtain ⟨ns, e1, e2⟩ := Option.bind_eq_some_iff.mp (show (asInts xs).bind _ = some rows from h)
    obtain ⟨rs, e3, e4⟩ := Option.map_eq_some_iff.mp e2
    subst e4
    rw [of_asInts e1, of_asTups e3]
    rfl
  | .none :: r, rows, h => by cases h
  | .bool _ :: r, rows, h => by cases h
  | .int _ :: r, rows, h => by cases h
  | .str _ :: r, rows, h => by cases h
  | .list _ :: r, rows, h => by cases h
  | .dict _ :: r, rows, h => by cases h
theorem asTups_of : ∀ rows : List (List Int), asTups (tupsD rows) = some rows
  | [] => rfl
  | ns :: rows => by
    show (asInts (nsD ns)).bind (fun ns => (asTups (tupsD rows)).map (ns :: ·)) = _
    rw [asInts_ints, asTups_of rows]
    rfl
def cins (x : List Int) : List (List Int) → List (List Int)
  | [] => [x]
  | y :: r => if TS.code 100 x ≤ TS.code 100 y then x :: y :: r else y :: cins x r
def csort : List (List Int) → List (List Int)
  | [] => []
  | x :: r => cins x (csort r)
theorem cins_perm (x : List Int) : ∀ l, (cins x l).Perm (x :: l)
  | [] => .refl _
  | y :: r => by
    unfold cins
    split
    · exact .refl _
    · exact ((cins_perm x r).cons y).trans (.swap x y r)
theorem csort_perm : ∀ l, (csort l).Perm l
  | [] => .refl _
  | x :: r => (cins_perm x (csort r)).trans ((csort_perm r).cons x)
abbrev CLe (x y : List Int) : Prop := TS.code 100 x ≤ TS.code 100 y
theorem cins_sorted (x : List Int) : ∀ l : List (List Int), l.Pairwise CLe → (cins x l).Pairwise CLe
  | [], _ => by simp [cins]
  | y :: r, h => by
    unfold cins
    rw [List.pairwise_cons] at h
    split
    · rename_i hxy
      refine List.pairwise_cons.mpr ⟨fun z hz => ?_, List.pairwise_cons.mpr h⟩
      rcases List.mem_cons.mp hz with rfl | hz
      · exact hxy
      · exact Int.le_trans hxy (h.1 z hz)
    · rename_i hxy
      refine List.pairwise_cons.mpr ⟨fun z hz => ?_, cins_sorted x r h.2⟩
      rcases List.mem_cons.mp ((cins_perm x r).mem_iff.mp hz) with rfl | hz
      · show TS.code 100 y ≤ TS.code 100 z
        omega
      · exact h.1 z hz
theorem csort_sorted : ∀ l, (csort l).Pairwise CLe
  | [] => .nil
  | x :: r => cins_sorted x _ (csort_sorted r)
theorem code_one : ∀ {n m : List Int}, n.length = m.length → TS.Bd 100 n → TS.Bd 100 m → TS.code 100 n = TS.code 100 m → n = m
  | [], [], _, _, _, _ => rfl
  | [], _ :: _, h, _, _, _ => by cases h
  | _ :: _, [], h, _, _, _ => by cases h
  | d :: n, x :: m, hl, hn, hm, h => by
    have hl : n.length = m.length := by simpa using hl
    rcases Int.lt_trichotomy d x with z | z | z
    · have := TS.code_lt hl hn.tail hm.tail z
      omega
    · subst z
      have h : d * 100 ^ n.length + TS.code 100 n = d * 100 ^ m.length + TS.code 100 m := h
      have hl2 : (n.length : Nat) = m.length := by simpa using hl
      rw [hl2] at h
      rw [code_one hl2 hn.tail hm.tail (by generalize d * 100 ^ m.length = y at h; omega)]
    · have := TS.code_lt hl.symm hm.tail hn.tail z
      omega
theorem csorted_one {P : List Int → Prop} (inj : ∀ x y, P x → P y → TS.code 100 x = TS.code 100 y → x = y) : ∀ {l m : List (List Int)}, l.Perm m → (∀ x ∈ m, P x) → l.Pairwise CLe → m.Pairwise CLe → l = m
  | [], m, p, _, _, _ => by
    have := p.length_eq
    cases m with
    | nil => rfl
    | cons _ _ => simp at this
  | x :: l, [], p, _, _, _ => by
    have := p.length_eq
    simp at this
  | x :: l, y :: m, p, hP, h, h' => by
    rw [List.pairwise_cons] at h h'
    have m1 : x ∈ y :: m := p.mem_iff.mp List.mem_cons_self
    have m2 : y ∈ x :: l := p.mem_iff.mpr List.mem_cons_self
    have e : x = y := by
      rcases List.mem_cons.mp m1 with e | m1'
      · exact e
      · rcases List.mem_cons.mp m2 with e | m2'
        · exact e.symm
        · have a : TS.code 100 x ≤ TS.code 100 y := h.1 y m2'
          have b : TS.code 100 y ≤ TS.code 100 x := h'.1 x m1'
          exact inj x y (hP x m1) (hP y List.mem_cons_self) (by omega)
    subst e
    rw [csorted_one inj (List.Perm.cons_inv p) (fun z hz => hP z (List.mem_cons_of_mem _ hz)) h.2 h'.2]
theorem DqA.permT {S : Hp} {vs ws : List V} (p : ws.Perm vs) : ∀ {rows : List (List Int)}, DqA S vs (tupsD rows) → ∃ rows', rows'.Perm rows ∧ DqA S ws (tupsD rows') := by
  induction p with
  | nil => exact fun {rows} k => ⟨rows, .refl _, k⟩
  | cons x _ ih =>
    intro rows k
    cases rows with
    | nil => cases k
    | cons n rows =>
      cases k with
      | cons k1 k2 =>
        obtain ⟨r', p', k'⟩ := ih k2
        exact ⟨n :: r', p'.cons n, .cons k1 k'⟩
  | swap x y l =>
    intro rows k
    cases rows with
    | nil => cases k
    | cons n rows =>
      cases k with
      | cons k1 k2 =>
        cases rows with
        | nil => cases k2
        | cons m rows =>
          cases k2 with
          | cons k2 k3 => exact ⟨m :: n :: rows, .swap n m rows, .cons k2 (.cons k1 k3)⟩
  | trans _ _ ih1 ih2 =>
    intro rows k
    obtain ⟨r1, p1, k1⟩ := ih2 k
    obtain ⟨r2, p2, k2⟩ := ih1 k1
    exact ⟨r2, p2.trans p1, k2⟩
def okT (rows : List (List Int)) : Bool := match rows with
  | [] => false
  | r :: _ => decide (rows.length < 64) && decide (1 ≤ r.length) && rows.all fun x => decide (x.length = r.length) && x.all fun i => decide (0 ≤ i) && decide (i < 100)
def fSortT : List Val → Option Val
  | [a] => a.lst.bind fun ds => (asTups ds).bind fun rows => if okT rows = true then some (.fr (tupsD (csort rows))) else none
  | _ => none
theorem tupI_of {K : PySem.W.Frag} {S H : Hp} (hs : Same S H) {v : V} {ns : List Int} (k : Dq S v (.tuple (nsD ns))) : TupI K H v ns := by
  cases k with
  | tup h n a =>
    rw [a.of_nsD] at h
    exact ⟨_, rfl, sqtF (hs _ _ h)⟩
theorem pw_code {K : PySem.W.Frag} {S H : Hp} (hs : Same S H) : ∀ {ys : List V} {rows : List (List Int)}, DqA S ys (tupsD rows) → ys.Pairwise (fun x y => ∀ n m, TupI K H x n → TupI K H y m → TS.code 100 n ≤ TS.code 100 m) → rows.Pairwise CLe
  | [], [], _, _ => .nil
  | [], _ :: _, k, _ => by cases k
  | _ :: _, [], k, _ => by cases k
  | y :: ys, n :: rows, k, h => by
    cases k with
    | cons k1 k2 =>
      rw [List.pairwise_cons] at h
      refine List.pairwise_cons.mpr ⟨fun m hm => ?_, pw_code hs k2 h.2⟩
      obtain ⟨i, hi, e⟩ := List.getElem_of_mem hm
      obtain ⟨v, e1, e2⟩ := DqA.get' k2 (i := i) (d := .tuple (nsD m)) (by
        show (List.map _ rows)[i]? = _
        rw [List.getElem?_map, List.getElem?_eq_getElem hi, e]
        rfl)
      exact h.1 v (List.mem_of_getElem? e1) n m (tupI_of hs k1) (tupI_of hs e2)
theorem s_sortT {K : PySem.W.Frag} : CallS B (fun xs H Q => ∃ d, 1 ≤ d ∧ rSortU K d 100 xs H Q) fSortT := by
  intro S H σ τ vs as c Q R ka e q
  cases ka with
  | nil => cases e
  | cons o r =>
    cases r with
    | cons _ _ => cases e
    | nil =>
      obtain ⟨ds, e1, e2⟩ := Option.bind_eq_some_iff.mp (show Option.bind _ _ = some c from e)
      obtain ⟨rows, e3, e4⟩ := Option.bind_eq_some_iff.mp e2
      by_cases hk : okT rows = true
      · rw [if_pos hk] at e4
        cases e4
        have ed := of_asTups e3
        subst ed
        obtain ⟨d, ws, rfl, hh, _, kk⟩ := VOk.lst R o e1
        cases rows with
        | nil => cases hk
        | cons r0 rows =>
          unfold okT at hk
          simp only [Bool.and_eq_true, decide_eq_true_eq, List.all_eq_true] at hk
          obtain ⟨⟨h64, hd1⟩, hall⟩ := hk
          have bd : ∀ x ∈ r0 :: rows, x.length = r0.length ∧ TS.Bd 100 x := fun x m => ⟨(hall x m).1, fun i hi => (hall x m).2 i hi⟩
          refine ⟨r0.length, hd1, d, ws, rfl, SqL.of hh, by rw [kk.len, List.length_map]; exact h64, fun x hx => ?_, fun ys t hp hpw ht => ?_⟩
          · obtain ⟨i, hi, ex⟩ := List.getElem_of_mem hx
            obtain ⟨dd, w1, w2⟩ := kk.get (i := i) (v := x) (by rw [List.getElem?_eq_getElem hi, ex])
            rw [List.getElem?_map] at w1
            obtain ⟨ns, w3, w4⟩ := Option.map_eq_some_iff.mp w1
            subst w4
            have mm := List.mem_of_getElem? w3
            exact ⟨ns, tupI_of R.sub w2, (bd ns mm).1, (bd ns mm).2⟩
          · obtain ⟨rows', p', k'⟩ := DqA.permT hp kk
            have eq : rows' = csort (r0 :: rows) := csorted_one (P := fun x => x.length = r0.length ∧ TS.Bd 100 x) (fun x y hx hy h => code_one (hx.1.trans hy.1.symm) hx.2 hy.2 h) (p'.trans (csort_perm _).symm) (fun x m => bd x ((csort_perm _).mem_iff.mp m)) (pw_code R.sub k' hpw) (csort_sorted _)
            subst eq
            obtain ⟨g2, r2, k2, f2⟩ := lay_lst R ht k'
            exact q _ _ _ g2 r2 k2 f2
      · rw [if_neg hk] at e4
        cases e4
theorem cr_sortTD : CallR X (.builtin "sorted") (fun xs H Q => ∃ d, 1 ≤ d ∧ rSortU X.K d 100 xs H Q) := by
  intro pins s σ H vs us Q I r ⟨d, hd, h⟩
  exact cr_sortT hd pins s σ H vs us Q I r h
end
end Kn
set_option Elab.async false
set_option linter.all false
set_option maxRecDepth 100000
set_option maxHeartbeats 4000000
namespace Kn
open PySem PySem.Spec L2
open PyProof.Rows hiding St
def rSort1 (K : PySem.W.Frag) : List V → Hp → VK → Prop := fun vs H Q => ∃ (a : Addr) (xs : List V), vs = [V.ref a] ∧ SqL K H a xs ∧ xs.length ≤ 1 ∧ ∀ q, H q = none → Q (.ref q) (upd H q (.lst xs))
theorem perm_short {α : Type} : ∀ {l m : List α}, l.Perm m → m.length ≤ 1 → l = m
  | [], [], _, _ => rfl
  | [], _ :: _, p, _ => by
    have := p.length_eq
    simp at this
  | [x], [y], p, _ => by
    have := p.mem_iff.mp (List.mem_singleton.mpr rfl : x ∈ [x])
    rw [List.mem_singleton] at this
    rw [this]
  | _ :: _, [], p, _ => by
    have := p.length_eq
    simp at this
  | _ :: _ :: _, [_], p, _ => by
    have := p.length_eq
    simp at this
  | _, _ :: _ :: _, _, h => by simp at h
theorem cr_sort1 {X : Cx} : CallR X (.builtin "sorted") (rSort1 X.K) := by
  intro pins s σ H vs us Q I r ⟨a, xs, e0, hs, h1, q⟩
  subst e0
  obtain ⟨its, rv, hl, hz⟩ := I.list hs
  rw [Vals.ref1 r]
  have ll := rv.length
  refine SrtO.sorted_ord SrtO.swo_int hl.isList (by rw [← ll]; exact hz) (fun h2 => absurd h2 (by omega)) fun out _ hb => ?_
  have eo : out = its := perm_short hb.perm (by omega)
  obtain ⟨ep, he'⟩ := PyProof.Rows.sortedAll_at s.heap its out.toArray
  exact ⟨.ref _, upd H (s.heap.objs.size + 1) (.lst xs), I.laid (t' := s.toks) (fun _ _ => PyProof.Rows.sortedAll_old) (Nat.le_succ _) ⟨hz, out, ep, by rw [eo]; exact rv, he'⟩, rfl, q _ (I.hok.fresh (Nat.le_succ _))⟩
def fSortTA : List Val → Option Val := fun as => match as with
  | [a] => match a.lst with
    | some ds => if ds.length ≤ 1 then some (.fr ds) else fSortT [a]
    | none => none
  | _ => none
def rSortTA (K : PySem.W.Frag) : List V → Hp → VK → Prop := fun xs H Q => rSort1 K xs H Q ∨ ∃ d, 1 ≤ d ∧ rSortU K d 100 xs H Q
theorem cr_sortTA {X : Cx} : CallR X (.builtin "sorted") (rSortTA X.K) := by
  intro pins s σ H vs us Q I r h
  rcases h with h | h
  · exact cr_sort1 pins s σ H vs us Q I r h
  · exact cr_sortTD pins s σ H vs us Q I r h
theorem s_sortTA {B : Bs} {K : PySem.W.Frag} : CallS B (rSortTA K) fSortTA := by
  intro S H σ τ vs as c Q R ka e q
  unfold fSortTA at e
  split at e
  · rename_i a
    cases el : a.lst with
    | none => rw [el] at e; cases e
    | some ds =>
      rw [el] at e
      simp only at e
      by_cases h : ds.length ≤ 1
      · rw [if_pos h] at e
        cases e
        cases ka with
        | cons o r =>
          cases r
          obtain ⟨d, ws, rfl, hh, _, kk⟩ := VOk.lst R o el
          refine .inl ⟨d, ws, rfl, SqL.of hh, by rw [kk.len]; exact h, fun t ht => ?_⟩
          obtain ⟨g2, r2, k2, f2⟩ := lay_lst R ht kk
          exact q _ _ _ g2 r2 k2 f2
      · rw [if_neg h] at e
        exact .inr (s_sortT S H σ τ vs [a] c Q R ka e q)
  · cases e
@[simp] theorem ev_fSortedD (l : List (Int × PyData)) : fSortedD [.fd l] = some (.fr (nsD (isort (l.map Prod.fst)))) := rfl
section
variable {X : Cx} {B : Bs}
theorem ds_setLc2 {lz lz1 : Bool} {i : Nat} {y : Str} {py : Pos} {elt tg iter tg1 iter1 : Expr} {scope : Scope} {own : List (Str × Nat)} {vs1 : List Nat} {pos spos : Pos} {wi wi1 : TI} {g g1 : TG} {te : TE} {gi gi1 : DenI B.R} {set set1 : SetD B.R} {is is1 : List Nat} {ge : Den B.R}
    (hc : X.calm = true) (hN : X.N.Nodup) (hy : X.N[i]? = some y) (hyl : X.env.scope.names.lookup y = some .local)
    (hsw : swapsWith (.ListComp elt [⟨tg, iter, [], 0⟩, ⟨tg1, iter1, [], 0⟩] scope pos) (some (.Name y py)) spos.line X.env = pure true) (hi : DI B lz X tg iter wi gi) (ok : BlkOk X.N X.env.scope scope own)
    (hg : ∀ (s : Shared) (H : Hp) (C : Addr) (cl : List (Str × Addr)) (fp : List Addr), DG B lz (X.blk s H scope (compEnvC scope cl C X.env) fp) tg g set is)
    (hi1 : ∀ (s : Shared) (H : Hp) (C : Addr) (cl : List (Str × Addr)) (fp : List Addr), DI B lz1 (X.blk s H scope (compEnvC scope cl C X.env) fp) tg1 iter1 wi1 gi1)
    (hg1 : ∀ (s : Shared) (H : Hp) (C : Addr) (cl : List (Str × Addr)) (fp : List Addr), DG B lz1 (X.blk s H scope (compEnvC scope cl C X.env) fp) tg1 g1 set1 is1)
    (he : ∀ (s : Shared) (H : Hp) (C : Addr) (cl : List (Str × Addr)) (fp : List Addr), DE B (X.blk s H scope (compEnvC scope cl C X.env) fp) elt te ge) (his : ∀ i ∈ is, i ∈ own.map (·.2)) (his1 : ∀ i ∈ is1, i ∈ vs1) (hv : ∀ i ∈ vs1, i ∈ own.map (·.2))
    (hs : ∀ x, foldedSetIterable iter X.env x = pure x := by intro _; rfl) (hs1 : ∀ env x, foldedSetIterable iter1 env x = pure x := by intro _ _; rfl) :
    DS B X (.Assign [.Name y py] (.ListComp elt [⟨tg, iter, [], 0⟩, ⟨tg1, iter1, [], 0⟩] scope pos) spos) (tAsg (tLc2 wi g tYes wi1 g1 tYes te (own.map (·.2)) vs1) (gName i)) (dSet i (dLc2 gi set gi1 set1 ge (own.map (·.2)) vs1)) :=
  ⟨ps_setLc2 hc hN hy hyl hsw hi.pe ok hv (fun s H C cl fp => (hg s H C cl fp).pe) (fun _ _ _ _ _ => pts_nil) (fun s H C cl fp => (hi1 s H C cl fp).pe) (fun s H C cl fp => (hg1 s H C cl fp).pe) (fun _ _ _ _ _ => pts_nil) (fun s H C cl fp => (he s H C cl fp).pe) hs hs1,
    snd_set (snd_lc2 hi.sd (hg X.s_0 X.H_0 0 [] []).sd (hi1 X.s_0 X.H_0 0 [] []).sd (hg1 X.s_0 X.H_0 0 [] []).sd (he X.s_0 X.H_0 0 [] []).sd his his1 hv)⟩
end
end Kn
set_option Elab.async false
set_option linter.all false
set_option maxRecDepth 100000
set_option maxHeartbeats 4000000
/-! a walk over a list, and a tuple taken apart, while an exception is handled -/
namespace Kn
open PySem PySem.Spec Builtin HotX
section
variable {prog : Program} {w : World} {A : Around} {E : Value → Shared → Prop} {s : Shared} {x1 it l : Addr}
theorem hot_ne {o : Obj} {vs : Array Value} (hot : HotAt A x1 s.heap) (ho : s.heap.get? it = some o) (hd : o.data = .fields vs) (hz : vs.size ≤ 2) : x1 ≠ it := fun z => by
  obtain ⟨_, o1, vs1, h1, d1, c1⟩ := hot
  subst z
  rw [ho] at h1
  cases h1
  rw [hd] at d1
  cases d1
  exact absurd (Array.getElem?_eq_some_iff.mp c1).1 (by omega)
/-- StopIteration, raised there -/
theorem stop_hot {α : Type} {Q : α → Shared → Prop} (hot : HotAt A x1 s.heap)
    (h : ∀ (h' : Heap) (e : Addr) (o : Obj), (∀ b u, s.heap.get? b = some u → h'.get? b = some u) → h'.get? e = some o → o.cls = .type "StopIteration" → E (.ref e) { s with heap := h' }) :
    wpAny (model prog w) A (do raiseNew (← newExc (.type "StopIteration") []) : Sem α) Q E s := by
  obtain ⟨hh, o1, vs1, h1, d1, c1⟩ := hot
  refine wpAny_bind ?_
  unfold newExc newTuple
  refine wpAny_bind (wpAny_newObj_type ?_ (by size_fits))
  refine wpAny_bind (m := firstArgMember _ _) (wpAny_of_eq (a := Value.none) (by first | rfl | (simp only [firstArgMember]; rfl)) (wpAny_newObj_type ?_ (by size_fits)))
  have up : ∀ {b u} (q r : Obj), s.heap.get? b = some u → ((s.heap.push q).push r).get? b = some u := fun q r e => Heap.get?_push_of_some _ (Heap.get?_push_of_some _ e)
  refine raiseNew_hot ⟨hh, o1, vs1, up _ _ h1, d1, c1⟩ (Nat.ne_of_lt (Heap.lt_size (Heap.get?_push_of_some _ h1))) (Heap.get?_push_size _ rfl) rfl (by first | (simp; done) | (simp; omega) | (simp only [Array.size_append]; simp; omega)) ?_
  refine h _ _ _ (fun b u e => ?_) (Heap.get?_update_self _ (Heap.get?_push_size _ rfl) rfl) rfl
  rw [Heap.get?_update_other _ _ (Nat.ne_of_gt (Heap.lt_size (Heap.get?_push_of_some _ e)))]
  exact up _ _ e
/-- the end of a list's or a tuple's walk -/
theorem rising_hot {o ol : Obj} {i : Int} {items : Array Value} {n : Nat} {nx : Builtin} (hx : nx = Builtin.«list_iterator.__next__» ∨ nx = Builtin.«tuple_iterator.__next__») (hot : HotAt A x1 s.heap) (ho : s.heap.get? it = some o) (hd : o.data = .fields #[.ref l, .int i 0]) (hl : s.heap.get? l = some ol) (dl : ol.data = .seq items n) (hn : items[i.toNat]? = none)
    (h : ∀ (h' : Heap) (e : Addr) (oe : Obj), Heap.ExtBut it s.heap h' → h'.get? e = some oe → oe.cls = .type "StopIteration" → E (.ref e) { s with heap := h' }) {Q : Fin → Shared → Prop} :
    wpAny (model prog w) A (nx ⟨[.ref it], []⟩) Q E s := by
  have nx1 := hot_ne hot ho hd (by simp)
  have go : wpAny (model prog w) A (Builtin.«list_iterator.__next__» ⟨[.ref it], []⟩) Q E s ∧ wpAny (model prog w) A (Builtin.«tuple_iterator.__next__» ⟨[.ref it], []⟩) Q E s := by
    constructor
    all_goals
      show wpAny _ _ (field (.ref it) 0 >>= _) _ _ s
      refine wpAny_bind (wpAny_field ho hd (x := .ref l) rfl ?_)
      show wpAny _ _ (if (Value.ref l == Value.none) = true then _ else _) _ _ s
      rw [if_neg (by intro z; cases z)]
      show wpAny _ _ (field (.ref it) 1 >>= _) _ _ s
      refine wpAny_bind (wpAny_field ho hd (x := .int i 0) rfl (wpAny_bind (wpAny_seqItems hl dl ?_)))
      simp only [hn]
      refine wpAny_bind (wpAny_rule (wpAny_bind (wpAny_setField ho hd (by simp) ?_)))
      have k1 : (s.heap.update it (Obj.mapFields (·.setIfInBounds 0 .none))).get? x1 = s.heap.get? x1 := Heap.get?_update_other _ _ (Ne.symm nx1)
      refine stop_hot (x1 := x1) (s := { s with heap := s.heap.update it (Obj.mapFields (·.setIfInBounds 0 .none)) }) ?_ fun h' e oe k ge c => h h' e oe (fun b u nb eb => k b u ((Heap.get?_update_other _ _ (Ne.symm nb)).trans eb)) ge c
      obtain ⟨hh, o1, vs1, h1, d1, c1⟩ := hot
      exact ⟨hh, o1, vs1, k1.trans h1, d1, c1⟩
  rcases hx with z | z
  · rw [z]
    exact go.1
  · rw [z]
    exact go.2
theorem list_end_hot {i : Nat} {items : Array Value} {Q : Option Value → Shared → Prop} (hot : HotAt A x1 s.heap) (hit : s.heap.IsListIter it l i) (hl : s.heap.IsList l items) (hx : items[i]? = none)
    (hQ : ∀ h', Heap.ExtBut it s.heap h' → Q none { s with heap := h' }) : wpAny (model prog w) A (pyNext (.ref it)) Q E s := by
  obtain ⟨o, ho, hc, hd⟩ := id hit
  obtain ⟨ol, hol, _, nl, hdl⟩ := hl
  unfold pyNext
  refine wpAny_bind (wpAny_attempt (wpAny_callSpecial?_slot (name := Str.ofString "__next__") hit.typeIs slot_listiter_next
    (wpAny_call_entry slot_listiter_next hit.typeIs entry_listiter_next (rising_hot (.inl rfl) (A := A.in1) hot ho hd hol hdl hx fun h' e oe k ge c => ?_) (args_listiter_next _))))
  exact wpAny_bind (wpAny_isInstance (T := "StopIteration") (b := true) ⟨_, ge, c⟩ isSubtype_stop (wpAny_pure (hQ _ k)))
open PyProof.Rows in
/-- a tuple of as many items as there are targets -/
theorem unpack_hot {t : Addr} {items : Array Value} {targets : List (Bool × (Value → Sem Unit))} {Q : Unit → Shared → Prop} (hot : HotAt A x1 s.heap) (ht : IsTup s.heap t items) (hn : targets.length = items.size) (hstar : targets.findIdx? (·.1) = none)
    (h : ∀ h', Heap.ExtBut s.heap.objs.size s.heap h' → wpAny (model prog w) A (assignInOrder (targets.map (·.2)) items.toList) Q E { s with heap := h' }) : wpAny (model prog w) A (unpack (.ref t) targets) Q E s := by
  have apart : t ≠ s.heap.objs.size ∧ x1 ≠ s.heap.objs.size := by
    obtain ⟨o, ho, _⟩ := ht
    obtain ⟨_, o1, _, h1, _⟩ := hot
    exact ⟨Nat.ne_of_lt (Heap.lt_size ho), Nat.ne_of_lt (Heap.lt_size h1)⟩
  unfold unpack
  rw [hn, hstar]
  refine wpAny_bind (wpAny_holding ?_)
  unfold unpackItems notIterableAtAll
  refine wpAny_bind (wpAny_bind (wpAny_specialOf ht.typeIs slot_tuple_iter.lookup (wpAny_pure ?_)))
  simp only [Bool.false_eq_true, if_false]
  refine wpAny_bind (wpAny_holding (iter_tuple ht ?_))
  refine wpAny_bind (wpAny_holding (draw_tuple apart.1 items.size 0 _ _ ⟨_, Heap.get?_push_size _ rfl, rfl, rfl⟩ (ht.push _) (by omega) fun h1 it1 sb => ?_))
  rw [List.drop_zero, List.take_of_length_le (by simp), if_neg (by simp)]
  obtain ⟨o, ho, hc, hd⟩ := id it1
  obtain ⟨ol, hol, _, nl, hdl⟩ := (ht.push { cls := .type "tuple_iterator", data := .fields #[.ref t, rawInt 0] }).extBut sb.extBut apart.1
  have hot1 : HotAt A x1 h1 := by
    obtain ⟨hh, o1, vs1, e1, d1, c1⟩ := hot
    exact ⟨hh, o1, vs1, (sb.2 x1 apart.2).trans (Heap.get?_push_of_some _ e1), d1, c1⟩
  refine wpAny_bind (wpAny_holding ?_)
  unfold pyNext
  refine wpAny_bind (wpAny_attempt (wpAny_callSpecial?_slot (name := Str.ofString "__next__") it1.typeIs slot_tupleiter_next
    (wpAny_call_entry slot_tupleiter_next it1.typeIs entry_tupleiter_next (rising_hot (.inr rfl) (A := A.in1) (s := { s with heap := h1 }) hot1 ho hd hol hdl (by simp) fun h' e oe k ge c => ?_) (args_tupleiter_next _))))
  refine wpAny_bind (wpAny_isInstance (T := "StopIteration") (b := true) ⟨_, ge, c⟩ isSubtype_stop (wpAny_pure ?_))
  simp only [Option.isSome_none, Bool.false_eq_true, if_false]
  exact wpAny_pure (h h' fun b u nb e => k b u nb (sb.extBut b u nb (Heap.get?_push_of_some _ e)))
end
end Kn
namespace Kn
open PySem PySem.Spec L2
open PyProof.Rows hiding St
open HotX
/-- in each state the handled exception stands, its context None -/
def HotW (X : Cx) : Prop := ∀ (pins : List (Addr × Obj)) (σ : L2.St) (H : Hp) (s : Shared), Inv X pins σ H s → ∃ x1, HotAt X.A x1 s.heap
section
variable {X : Cx}
theorem hot_blk {pins : List (Addr × Obj)} {σ : L2.St} {H : Hp} {s : Shared} {scope : Scope} {ce : Env} {b : Addr} (hc : L2H.HotC X) (I : Inv X pins σ H s) (hf : FpOk X pins H b) : HotW (X.blk s H scope ce [b]) := by
  obtain ⟨p, ⟨hh, vs, d, c⟩, hp⟩ := hc
  intro _ _ _ s' J
  obtain ⟨p1, p2, p3, p4, _⟩ := I.pin p (List.mem_append_left _ hp)
  have there : s'.heap.get? p.1 = some p.2 := J.base.keep p.1 p.2 p1 p2 (fun hm => (List.mem_cons.mp (I.stkSub p.1 hm)).elim p3 p4) fun hm => hf.2.2.2.2.2 p (List.mem_append_left _ hp) (List.mem_singleton.mp hm)
  exact ⟨p.1, hh, p.2, vs, there, d, c⟩
theorem pg_tup_hot {es : List Expr} {k : Nat} {t : TGs} {n : Nat} {pos : Pos} (hc : HotW X) (h : PGs X es t)
    (hn : (assignEach es X.env).length = n := by rfl) (hst : (assignEach es X.env).findIdx? (·.1) = none := by rfl) : PG X (.Tuple es k pos) (gTup X.K n t) := by
  refine ⟨fun pins s σ H v u Q I r ⟨a, xs, ev, hq, hl, hw⟩ => ?_⟩
  subst ev
  cases r
  obtain ⟨its, rv, ht, _⟩ := I.tuple hq
  obtain ⟨x1, hot⟩ := hc pins σ H s I
  rw [assign_Tuple]
  refine wpAny_bind (wpAny_standAt (unpack_hot hot ht (by simp [hn, ← hl, rv.length]) hst fun h' hx => ?_))
  exact h.run pins _ σ H xs _ Q (I.kept (t' := s.toks) fun b o e => hx b o (Nat.ne_of_lt (Heap.lt_size e)) e) (by simpa using rv) hw
/-- [elt for target in a list if ..] there -/
theorem pe_lcH {l elt tg : Expr} {ifs : List Expr} {scope : Scope} {own : List (Str × Nat)} {pos : Pos} {tl : TE} {g : TG} {tt : TT} {te : TE} (hc : L2H.HotC X) (hN : X.N.Nodup) (hl : PE X l tl) (ok : BlkOk X.N X.env.scope scope own)
    (hg : ∀ (s : Shared) (H : Hp) (C : Addr) (cl : List (Str × Addr)) (fp : List Addr), HotW (X.blk s H scope (compEnvC scope cl C X.env) fp) → PG (X.blk s H scope (compEnvC scope cl C X.env) fp) tg g)
    (ht : ∀ (s : Shared) (H : Hp) (C : Addr) (cl : List (Str × Addr)) (fp : List Addr), PTs (X.blk s H scope (compEnvC scope cl C X.env) fp) ifs tt)
    (he : ∀ (s : Shared) (H : Hp) (C : Addr) (cl : List (Str × Addr)) (fp : List Addr), PE (X.blk s H scope (compEnvC scope cl C X.env) fp) elt te) (hs : ∀ x, foldedSetIterable l X.env x = pure x := by intro _; rfl) :
    PE X (.ListComp elt [⟨tg, l, ifs, 0⟩] scope pos) (tLc (iList X.K tl) g tt te (own.map (·.2))) := by
  refine ⟨fun pins s σ H Q I h => ?_⟩
  have caught : ∀ y ∈ scope.names, y.2 = .free → ∃ c, X.env.cells.lookup y.1 = some c := fun y hy e => (ok.free y hy e).elim (fun k => I.ok.has _ (.inl k)) fun k => I.ok.has _ (.inr k)
  rw [eval_ListComp]
  refine wpAny_comprehension_free (use := none) rfl hs (closure_ok caught) ok.kind (fun y hy e => by rw [ok.uniq y hy, e]) (thn (hl.run pins s σ H _ I h) fun _ s1 ⟨x, H1, I1, r1, a, ex, ⟨xs, hq⟩, q⟩ => ?_)
  subst ex
  cases r1
  obtain ⟨its, _, pl, _⟩ := I1.list hq
  refine wpAny_pyIter_list pl.isList ?_
  -- the iterator at b, the new list at D
  generalize hb : s1.heap.objs.size = b
  generalize h2 : ({ s1 with heap := s1.heap.push { cls := .type "list_iterator", data := .fields #[.ref a, .int 0 0] } } : Shared) = s2
  have g2 : s2.heap = s1.heap.push { cls := .type "list_iterator", data := .fields #[.ref a, .int 0 0] } := by rw [← h2]
  have I2 : Inv X pins σ H1 s2 := by
    rw [← h2]
    exact I1.kept (t' := s1.toks) fun _ _ e => Heap.get?_push_of_some _ e
  have w2 : s2.heap.IsListIter b a 0 := by
    rw [g2, ← hb]
    exact ⟨_, Heap.get?_push_size _ rfl, rfl, rfl⟩
  have f2 : FpOk X pins H1 b := I1.fpOk (Nat.le_of_eq hb) (I1.hok.fresh (Nat.le_of_eq hb))
  refine wpAny_newObj_type (newEnv_comp ?_) (by show 0 ≤ sizeLine; decide)
  generalize hD : s2.heap.objs.size = D
  have bD : b ≠ D := by
    rw [← hb, ← hD, g2, Heap.size_push]
    exact Nat.ne_of_lt (Nat.lt_succ_self _)
  obtain ⟨W, ⟨m0, w0⟩, turn⟩ := q D (I2.hok.fresh (Nat.le_of_eq hD))
  generalize h3 : ({ s2 with heap := s2.heap.push { cls := .type "list", data := .seq ([] : List Value).toArray } } : Shared) = s3
  have g3 : s3.heap = s2.heap.push { cls := .type "list", data := .seq ([] : List Value).toArray } := by rw [← h3]
  generalize hH : upd H1 D (.lst []) = H3 at w0
  have I3 : Inv X pins σ H3 s3 := by
    rw [← h3, ← hH]
    refine I2.laid (t' := s2.toks) (fun _ _ e => Heap.get?_push_of_some _ e) (Nat.le_of_eq hD) ⟨Nat.zero_le _, [], 0, .nil, ?_⟩
    rw [← hD]
    exact Heap.get?_push_size _ rfl
  have f3 : FpOk X pins H3 b := ⟨by rw [← hH, upd_ne bD]; exact f2.1, f2.2⟩
  have b3 : b < s3.heap.objs.size := by
    rw [g3, Heap.size_push, hD]
    obtain ⟨o, e, _⟩ := w2
    have z := Heap.lt_size e
    rw [hD] at z
    exact Nat.lt_succ_of_lt z
  have I4 := block_start (fp := [b]) I3 ok hN fun c hm => by
    rw [List.mem_singleton.mp hm]
    exact ⟨f3, b3⟩
  have hot := hot_blk (scope := scope) (ce := compEnvC scope (cellsFrom (s3.heap.objs.size + 1) scope.names (cloFrom X.env.cells scope.names [])) s3.heap.objs.size X.env) hc I3 f3
  have pg := hg s3 H3 s3.heap.objs.size (cellsFrom (s3.heap.objs.size + 1) scope.names (cloFrom X.env.cells scope.names [])) [b] hot
  have pt := ht s3 H3 s3.heap.objs.size (cellsFrom (s3.heap.objs.size + 1) scope.names (cloFrom X.env.cells scope.names [])) [b]
  have pe := he s3 H3 s3.heap.objs.size (cellsFrom (s3.heap.objs.size + 1) scope.names (cloFrom X.env.cells scope.names [])) [b]
  show codeAny _ _ (.compStart (.ListComp elt [⟨tg, l, ifs, 0⟩] scope pos) 0 (.ref b) (.ref D) (compEnvC scope (cellsFrom (s3.heap.objs.size + 1) scope.names (cloFrom X.env.cells scope.names [])) s3.heap.objs.size X.env)) _ { s3 with heap := pushCells (s3.heap.push { cls := .type "dict", data := .dict #[] }) scope.names }
  generalize hce : compEnvC scope (cellsFrom (s3.heap.objs.size + 1) scope.names (cloFrom X.env.cells scope.names [])) s3.heap.objs.size X.env = ce at I4 pg pt pe hot ⊢
  have cL : ce.locals = s3.heap.objs.size := by rw [← hce]; rfl
  generalize h4 : ({ s3 with heap := pushCells (s3.heap.push { cls := .type "dict", data := .dict #[] }) scope.names } : Shared) = s4 at I4 ⊢
  have w4 : s4.heap.IsListIter b a 0 := w2.at fun o e => by
    rw [← h4]
    refine pushCells_keeps _ _ _ _ (Heap.get?_push_of_some _ ?_)
    rw [g3]
    exact Heap.get?_push_of_some _ e
  have mine : ∀ {σ' : L2.St} {H' : Hp} {s' : Shared}, Inv (X.blk s3 H3 scope ce [b]) [] σ' H' s' → H' b = none → FpOk (X.blk s3 H3 scope ce [b]) [] H' b := fun J n =>
    ⟨n, (J.ok.exf b (List.mem_singleton.mpr rfl)).1, J.ok.exfs b (List.mem_singleton.mpr rfl), .inl (List.mem_singleton.mpr rfl), fun x c e => (J.ok.exf b (List.mem_singleton.mpr rfl)).2 x c e, fun p hp => absurd (show p ∈ ([] : List (Addr × Obj)) ++ [] from hp) (by simp)⟩
  have loop : codeAny (model X.prog X.w) X.A (.compLoop (.ListComp elt [⟨tg, l, ifs, 0⟩] scope pos) 0 (.ref b) (.ref D) ce) (compPost (model X.prog X.w) X.A X.xe none (EP X pins σ Q) (.ref D) s3.heap.objs.size) s4 := by
    refine compLoop_any (fun n s' => ∃ i H', Inv (X.blk s3 H3 scope ce [b]) [] (wipe σ (own.map (·.2))) H' s' ∧ s'.heap.IsListIter b a i ∧ H' b = none ∧ W i n H') ?_ m0 ⟨0, H3, I4, w4, f3.1, w0⟩
    rintro n s5 ⟨i, H5, I5, w5, n5, inv5⟩
    obtain ⟨k0, k1, k2, k3, k4, k5⟩ := mine I5 n5
    rcases turn i n H5 inv5 with ⟨⟨ys, hy, over⟩, fine⟩ | ⟨⟨ys, y, hy, yi⟩, Nx, hNx, step⟩
    · -- the list is walked
      obtain ⟨us, ry, py, _⟩ := I5.list hy
      obtain ⟨x1, h1⟩ := hot [] _ _ _ I5
      have zl := ry.length
      refine list_end_hot h1 w5 py.isList (by simp; omega) fun h' eb => ?_
      have I6 : Inv (X.blk s3 H3 scope ce [b]) [] (wipe σ (own.map (·.2))) H5 { s5 with heap := h' } := I5.turned (t' := s5.toks) (fun c o nc e => eb c o nc e) k0 k1 k3 k4 k5
      have I7 : Inv X pins σ H5 { s5 with heap := h' } := I3.call' (ch := [b]) I6.os I6.base I6.hok I6.bare fun c hm => by
        rw [List.mem_singleton.mp hm]
        exact ⟨f3.2.2.2.1, f3.2.1, f3.2.2.2.2.1, f3.2.2.2.2.2⟩
      have nC : H5 s3.heap.objs.size = none := by
        rw [← cL]
        exact I6.free
      obtain ⟨m, hn, _⟩ := I6.loc
      refine ⟨m, by rw [← cL]; exact hn, fun h'' sb => ?_⟩
      obtain ⟨c0, c1, c2, c3, c4, c5⟩ := I3.fpOk (Nat.le_refl _) nC
      exact ⟨.ref D, H5, I7.turned (t' := s5.toks) (fun c o nc e => (sb.2 c nc).trans e) c0 c1 c3 c4 c5, rfl, fine⟩
    · -- one more item
      obtain ⟨us, ry, py, _⟩ := I5.list hy
      obtain ⟨u, hu, ru⟩ := ry.get yi
      refine wpAny_pyNext_list_item w5 py.isList (x := u) (by simpa using hu) fun h' w6 sb => ?_
      have I6 : Inv (X.blk s3 H3 scope ce [b]) [] (wipe σ (own.map (·.2))) H5 { s5 with heap := h' } := I5.turned (t' := s5.toks) (fun c o nc e => (sb.2 c nc).trans e) k0 k1 k3 k4 k5
      obtain ⟨oi, ei, ci, di⟩ := id w6
      refine go_of (s := { s5 with heap := h' }) ei ci di (by decide) ?_
      have I7 := I6.pinned (fp := [b]) (fun c hm => by rw [List.mem_singleton.mp hm]; exact mine I6 n5) fun c hm => by
        rw [List.mem_singleton.mp hm]
        exact ⟨oi, ei, fun v z => by rw [di] at z; cases z⟩
      refine thnF (pg.run _ { s5 with heap := h' } _ H5 y u _ I7 ru (step y H5 ⟨rfl, fun zs hz => by rw [I5.list_inj hz hy]; exact yi⟩)) fun _ s8 ⟨σ8, H8, I8, hw8, q8⟩ => ?_
      refine thnF (pt.run _ s8 σ8 H8 _ I8 q8) fun t s9 ⟨H9, I9, q9⟩ => ?_
      have next : ∀ {s' : Shared} {H' : Hp}, Inv (X.blk s3 H3 scope ce [b]) ([] ++ pinsAt [b] h') σ8 H' s' → Nx H' → ∃ m, m < n ∧ ∃ i H', Inv (X.blk s3 H3 scope ce [b]) [] (wipe σ (own.map (·.2))) H' s' ∧ s'.heap.IsListIter b a i ∧ H' b = none ∧ W i m H' := fun {s' H'} J nx => by
        obtain ⟨m', hm, w'⟩ := hNx H' nx
        obtain ⟨z1, z2, _⟩ := J.pin (b, oi) (List.mem_append_right _ (List.mem_append_right _ (mem_pinsAt (List.mem_singleton.mpr rfl) ei)))
        have hlen : (wipe σ (own.map (·.2))).length = σ8.length := by rw [← hw8, wipe_length]
        refine ⟨m', hm, i + 1, H', (J.unpinned (pins := [])).weak hlen (fun j v e => ?_), w6.at fun o e => ?_, z2, w'⟩
        · rw [← hw8] at e
          exact (wipe_some e).1
        · rw [ei] at e
          cases e
          exact z1
      cases t with
      | false =>
        simp only [Bool.false_eq_true, if_false] at q9 ⊢
        exact next I9 q9
      | true =>
        simp only [if_true] at q9 ⊢
        refine thnF (pe.run _ s9 σ8 H9 _ I9 q9) fun z s10 ⟨yv, H10, I10, r10, acc, hD10, hz10, nx⟩ => ?_
        exact app_ok (X := X.blk s3 H3 scope ce [b]) I10 hD10 hz10 r10 fun s11 I11 => next I11 nx
  exact codeAny_compStart_list loop (wpAny_pyIter_listiter w4 loop)
end
end Kn
set_option Elab.async false
set_option linter.all false
set_option maxRecDepth 100000
set_option maxHeartbeats 4000000
namespace Kn
open PySem PySem.Spec L2
open PyProof.Rows hiding St
/-! ### raise C(), C an exception class of one's own (kin of ValueError) without an __init__ -/
/-- what is to be seen of the class in K -/
structure ExC (K : PySem.W.Frag) (mg : Str → Option Value) (x : Str) (C : Addr) : Prop where
  g : mg x = some (.ref C)
  q : PySem.W.excIn K C HandSPX.veTail "ValueError.__new__" = true
  k : PySem.W.keepIn K (.ref C) = true
  s : PySem.W.subIn K (.ref C) (.type "BaseException") = some true
  t : PySem.W.typeIn K (.ref C) = some (.type "type")
section
variable {X : Cx} {B : Bs} {x : Str} {C : Addr} {p pos rpos : Pos}
theorem pmk_none (c : ExC X.K X.mg x C) (hg : Gl X x) (hdb : (x == ("__debug__" : Str)) = false := by decide) : L2N.PMk X (.Call (.Name x p) [] [] pos) (fun _ H Q => Q (.ref C) none H) := by
  intro pins s σ H Q I h
  refine wpAny_Call_Name_kw (ld_glob I hg c.g ?_ hdb)
  refine PySem.W.callWith_K0 I.kIn c.k ?_
  show wpAny _ _ (call (.ref C) []) _ _ _
  obtain ⟨bm, N, nm, qn, bs, hdct, sn, sub, ab, col, dd, k0, k1, k2, k3, k5, mN, hC, hN, hni, T⟩ := exc_obj I.kIn c.q
  refine wpAny_call_exc_subT PySem.F.excBase_ValueError T hC hN hni (fun h' e hm => ?_) (Nat.zero_le _)
  exact L2N.mk_of I hm (raises_own c.s c.t) h (I.hok.gone hm.new)
def dRaise {R : Rsc} (C : Addr) : DenS R := fun τ => .exc ⟨C, none, τ.γ⟩
@[simp] theorem ev_dRaise {R : Rsc} (C : Addr) (τ : Tau R) : dRaise C τ = .exc ⟨C, none, τ.γ⟩ := rfl
theorem ds_raise0 (c : ExC X.K X.mg x C) (hg : Gl X x) (tk : L2N.Takes X (fun cls d _ H => B.E cls d H)) (hc : X.calm = true) (hdb : (x == ("__debug__" : Str)) = false := by decide) :
    DS B X (.Raise (some (.Call (.Name x p) [] [] pos)) none rpos) (fun _ σ H => (fun (_ : St) (H : Hp) (Q : XK) => Q (.ref C) none H) σ H fun cls d H' => B.E cls d H') (dRaise C) :=
  ⟨L2N.ps_raise hc tk (pmk_none c hg hdb), fun S H σ τ D R q => q S H σ τ none (Same.refl _) R rfl rfl⟩
/-- what a def lets out is what is wished -/
theorem takes_cx {P : Program} {w : World} {K : PySem.W.Frag} {mg : Str → Option Value} {base : Heap} {N : List Str} {qual : Str} {sc : Scope} {f : Addr} {cdv : Value} {A : Around} {outer : List Env} {s : Shared} {H : Hp} {E : XK} :
    L2N.Takes (cxOf (L2N.CX P w) P w K mg base N qual sc f cdv A outer s H E) (fun cls d _ H => E cls d H) := L2N.takes_of rfl rfl rfl rfl
theorem passes_cx {P : Program} {w : World} {K : PySem.W.Frag} {mg : Str → Option Value} {base : Heap} {N : List Str} {qual : Str} {sc : Scope} {f : Addr} {cdv : Value} {A : Around} {outer : List Env} {s : Shared} {H : Hp} {E : XK} :
    Passes (L2N.CX P w) (cxOf (L2N.CX P w) P w K mg base N qual sc f cdv A outer s H E) E := L2N.passes_call takes_cx fun _ _ _ _ h => h
end
end Kn
set_option Elab.async false
set_option linter.all false
set_option maxRecDepth 100000
set_option maxHeartbeats 4000000
namespace Kn
open PySem PySem.Spec L2
open PyProof.Rows hiding St
/-! ### try with several clauses that bind the same name -/
abbrev Cl := Value × (Addr → Value → Option Addr → TS)
/-- behind a suite the clause's name is gone -/
abbrev offE (D : Ends) (i : Nat) : Ends := { nx := fun σ' H' => D.nx (σ'.set i none) H', rt := D.rt, bk := fun σ' H' => D.bk (σ'.set i none) H', ct := fun σ' H' => D.ct (σ'.set i none) H' }
def wA (K : PySem.W.Frag) (Wout : WX) (D : Ends) (i : Nat) : List Cl → WX
  | [] => Wout
  | (c, ts) :: r => fun cls d σ H => ∃ b, PySem.W.exmOne K cls c = some b ∧ (b = true → ∀ a, H a = none → ts a cls d (offE D i) (σ.set i (some (.ref a))) H) ∧ (b = false → wA K Wout D i r cls d σ H)
inductive HdsA (X : Cx) (n : Str) : List ExceptHandler → List Cl → Prop
  | nil : HdsA X n [] []
  | cons {x : Str} {c : Value} {ts : Addr → Value → Option Addr → TS} {st : Stmt} {sts : List Stmt} {p q : Pos} {hds : List ExceptHandler} {l : List Cl} (hc : Names X x c)
      (run : ∀ (a : Addr) (oe : Obj) (cls : Value) (d : Option Addr) (pn : List (Addr × Obj)), L2N.Zn cls d oe → (∃ vs, oe.data = .fields vs) → PSs (X.suite a ((a, oe) :: pn)) (st :: sts) (ts a cls d)) (r : HdsA X n hds l) :
      HdsA X n (.ExceptHandler (some (.Name x p)) (some n) (st :: sts) q :: hds) ((c, ts) :: l)
section
variable {X : Cx} {n : Str} {i : Nat} {Wout : WX} {D : Ends} {pins : List (Addr × Obj)} {σ : L2.St} {H : Hp} {a : Addr} {cls : Value} {d : Option Addr} {B : Heap} {sI s' : Shared} {h3 : Heap}
/-- the exception at a has been caught and lies on the ground -/
structure Down (X : Cx) (pins : List (Addr × Obj)) (σ : L2.St) (H : Hp) (a : Addr) (cls : Value) (d : Option Addr) (B : Heap) (sI s' : Shared) (h3 : Heap) : Prop where
  I : Inv X pins σ H sI
  nb : ∀ b o, sI.heap.get? b = some o → b ∉ frs X.stack → B.get? b = some o
  up : sI.heap.UpToSlots h3
  fl : HandSPX.FlyingZ B (X.env :: X.outer) a (L2N.Zn cls d) h3
  na : H a = none
  os : s'.os = sI.os
  ag : AllBare s'.gens
theorem Down.inv (w : Down X pins σ H a cls d B sI s' h3) : Inv X pins σ H { s' with heap := h3 } := w.I.landed w.nb w.fl.1 w.up w.os w.ag
theorem Down.out (hf : X.env.frame = some X.env.locals) (w : Down X pins σ H a cls d B sI s' h3) {oe : Obj} {vs : Array Value} (he : h3.get? a = some oe) (hd : oe.data = .fields vs) : a ≠ X.env.locals ∧ a ∉ X.fs := by
  have nfr : ∀ e ∈ X.env :: X.outer, e.frame ≠ some a := fun e he' z => by
    obtain ⟨_, o', e', hnf⟩ := w.fl.2.2.1.mem (List.mem_filterMap.mpr ⟨e, he', z⟩)
    rw [he] at e'
    cases e'
    exact hnf _ hd
  refine ⟨fun z => nfr X.env List.mem_cons_self (by rw [hf, z]), fun hm => ?_⟩
  obtain ⟨e, he', q⟩ := List.mem_filterMap.mp hm
  exact nfr e (List.mem_cons_of_mem _ he') q
/-- the clauses are asked, one by one -/
theorem hds_run (hs : X.stack = X.env :: X.outer) (hf : X.env.frame = some X.env.locals) (hN : X.N.Nodup) (hi : X.N[i]? = some n) (hln : X.env.kindOf n = some .local) (tk : L2N.Takes X Wout)
    (w : Down X pins σ H a cls d B sI s' h3) {hds : List ExceptHandler} {l : List Cl} (hk : HdsA X n hds l) : wA X.K Wout D i l cls d σ H → wpAny (model X.prog X.w) X.A (handleBy (.ref a) X.env hds) (SP X pins D) X.xe { s' with heap := h3 } := by
  have ok := w.I.ok
  obtain ⟨oe, vs, he, hz, hd⟩ := w.fl.there
  obtain ⟨nL, nF⟩ := w.out hf he hd
  induction hk with
  | nil =>
    intro h
    refine wpAny_handleBy_nil ?_
    obtain ⟨_, _, _, oe', vs', T, oT, _, he', _, hd', h1, _⟩ := id w.fl
    have away : wpAny (model X.prog X.w) X.A (setFlight (.ref a) X.env.frame) (fun _ s4 => wpAny (model X.prog X.w) X.A (throw (.ref a) : Sem Flow) (SP X pins D) X.xe s4) X.xe { s' with heap := h3 } := by
      rw [hf]
      refine HandSPX.setFlight_upZ w.fl fun h4 hh4 up4 => wpAny_throw (tk _ _ ⟨a, B, sI, pins, σ, H, cls, d, rfl, w.I, w.nb, w.up.trans up4, .inr (.inr ?_), w.na, w.os, w.ag, h⟩)
      rw [hs]
      exact hh4
    unfold PySem.passOn
    refine wpAny_bind (wpAny_field he' hd' h1 ?_)
    rw [if_neg (show ¬ ((Value.ref T == Value.none) = true) from by simp)]
    first
      | exact wpAny_bind (wpAny_pure (wpAny_bind away))
      | exact wpAny_bind away
  | @cons x c ts st sts p q hds2 l2 hc run r ih =>
    intro ⟨b, hb, yes, no⟩
    have S3 := w.inv.suite he hd w.na nL nF
    have LT : PySem.W.Looks (model X.prog X.w) h3 (typeOf (.ref a)) cls := fun _ _ _ _ k q => wpAny_typeOf_ref (k _ _ he) (by rw [hz.1]; exact q)
    have asked : ∀ {Q E : Value → Shared → Prop}, Q c { s' with heap := h3 } → wpAny (model X.prog X.w) (X.A.mark (some (.ref a))) (eval (.Name x p) X.env) Q E { s' with heap := h3 } := fun {Q E} q => by
      rcases hc with ⟨hg, hdb, hm | ⟨hm, hv, hnn⟩⟩
      · exact ld_glob (X := X.suite a ((a, oe) :: (X.pn ++ pins))) S3 hg hm q hdb
      · exact ld_blt (X := X.suite a ((a, oe) :: (X.pn ++ pins))) S3 hg hm hv q hnn hdb
    refine wpAny_handleBy_cons (codeAny_handlers_test (asked ((PySem.W.exm_one (M := model X.prog X.w) w.inv.kIn LT hb).here ?_))) (by intro z; cases z)
    cases b with
    | false =>
      show wpAny _ X.A (handleBy (.ref a) X.env hds2) _ _ _
      exact ih (no rfl)
    | true =>
      refine codeAny_handlers_suite_as (HandSPX.lands_againZ w.fl fun h4 fl4 up4 => ?_)
      have w4 : Down X pins σ H a cls d B sI s' h4 := ⟨w.I, w.nb, w.up.trans up4, fl4, w.na, w.os, w.ag⟩
      obtain ⟨oe4, vs4, he4, hz4, hd4⟩ := fl4.there
      refine store_ok (X := X.suite a ((a, oe4) :: (X.pn ++ pins))) (v := .ref a) (w4.inv.suite he4 hd4 w.na nL nF) hN hi (.inl hln) rfl (fun s5 S5 => ?_) (.inr hln)
      refine wpAny_mono ((run a oe4 cls d (X.pn ++ pins) hz4 ⟨_, hd4⟩).run [] s5 _ H _ S5 (yes rfl a w.na)) (fun f s6 hsp => ?_) (fun _ _ z => False.elim z)
      have gone : ∀ {σ6 : L2.St} {H6 : Hp} {Q : Shared → Prop}, Inv (X.suite a ((a, oe4) :: (X.pn ++ pins))) [] σ6 H6 s6 → (∀ s7, Inv X pins (σ6.set i none) H6 s7 → Q s7) →
          wpAny (model X.prog X.w) X.A (do bindName X.env n .none; unbindBehindTheSuite X.env n q) (fun _ s7 => Q s7) X.xe s6 := fun S6 hq => gone_ok (S6.unsuite ok) hN hi hln hq
      cases f with
      | ret u =>
        obtain ⟨v6, σ6, H6, S6, r6, q6⟩ := hsp
        exact gone S6 fun s7 J7 => ⟨_, _, _, J7, r6, q6⟩
      | next => exact let ⟨σ6, H6, S6, q6⟩ := hsp; gone S6 fun s7 J7 => ⟨_, _, J7, q6⟩
      | brk => exact let ⟨σ6, H6, S6, q6⟩ := hsp; gone S6 fun s7 J7 => ⟨_, _, J7, q6⟩
      | cont => exact let ⟨σ6, H6, S6, q6⟩ := hsp; gone S6 fun s7 J7 => ⟨_, _, J7, q6⟩
theorem ps_tryA {body : List Stmt} {h₀ : ExceptHandler} {hds : List ExceptHandler} {l : List Cl} {pos : Pos} {tb : WX → TS} (hs : X.stack = X.env :: X.outer) (hf : X.env.frame = some X.env.locals) (hN : X.N.Nodup) (hi : X.N[i]? = some n) (hln : X.env.kindOf n = some .local) (tk : L2N.Takes X Wout)
    (hb : ∀ (W : WX) (pn : List (Addr × Obj)) (xe : Value → Shared → Prop), L2N.Takes (X.tr pn xe) W → PassesOwn (model X.prog X.w) X.A X.env xe → PSs (X.tr pn xe) body (tb W))
    (hh : HdsA X n (h₀ :: hds) l) : PS X (.Try body (h₀ :: hds) [] [] pos) (fun D σ H => tb (fun cls d σ' H' => σ'.length = X.N.length → wA X.K Wout D i l cls d σ' H') D σ H) := by
  refine ⟨fun pins s σ H D I h => wpAny_Try_except ?_⟩
  have ok := I.ok
  have hfr : X.A.frames = some (X.env :: X.outer) := by rw [ok.frames, hs]
  refine wpAny_mono ((hb (fun cls d σ' H' => σ'.length = X.N.length → wA X.K Wout D i l cls d σ' H') (X.pn ++ pins) (fun e s₁ => wpAny (model X.prog X.w) X.A (noteFrame e X.env) (fun _ s₂ => wpAny (model X.prog X.w) X.A (setFlight e none) (fun _ s₃ => wpAny (model X.prog X.w) X.A (handleBy e X.env (h₀ :: hds)) (SP X pins D) X.xe s₃) X.xe s₂) X.xe s₁)
    (fun u s' xx => ?_) PassesOwn.looking).run [] s σ H D (I.toTry _) h) (fun f s1 hsp => ?_) (fun e s1 he => he)
  · obtain ⟨a, B, sI, pins', σ', H', cls, d, rfl, J, nb, up, sky, na, os, ag, w⟩ := xx
    have sky : Sky B (X.env :: X.outer) a (L2N.Zn cls d) X.env.locals s'.heap := by rw [← hs]; exact sky
    have J2 : Inv X pins σ' H' sI := J.ofTry ok
    exact L2N.Sky.land L2N.Zn.steady hfr hf sky fun h3 fl3 up3 => hds_run hs hf hN hi hln tk ⟨J2, nb, up.trans up3, fl3, na, os, ag⟩ hh (w J2.len)
  · cases f with
    | ret u => exact let ⟨v, σ', H', J, r, q⟩ := hsp; ⟨v, σ', H', J.ofTry ok, r, q⟩
    | next => exact let ⟨σ', H', J, q⟩ := hsp; wpAny_execs_nil ⟨σ', H', J.ofTry ok, q⟩
    | brk => exact let ⟨σ', H', J, q⟩ := hsp; ⟨σ', H', J.ofTry ok, q⟩
    | cont => exact let ⟨σ', H', J, q⟩ := hsp; ⟨σ', H', J.ofTry ok, q⟩
end
end Kn
set_option Elab.async false
set_option linter.all false
set_option maxRecDepth 100000
set_option maxHeartbeats 4000000
namespace Kn
open PySem PySem.Spec L2
open PyProof.Rows hiding St
open LamX (CodeO TabB)
open NdefX (NF NScope ncx startF inv_startN CellsAt envF)
/-! ### a lambda's object -/
abbrev lamFd (F : NF) (body : Expr) (pm ctv : Value) : FuncData := PySem.W.kla_fn "<lambda>" F.qual F.params body F.scope F.cl pm (.ref F.c) ctv
/-- the object at f is the lambda F with that body -/
def LamO (f : Addr) (F : NF) (body : Expr) : HO := .ext fun h => ∃ (od : Option Addr) (sl : Array (Option Value)) (pm ctv : Value), h.get? f = some (⟨.type "function", od, .func (lamFd F body pm ctv), sl⟩ : Obj)
theorem lamO_at {P : Program} {w : World} {H : Hp} {h : Heap} {f : Addr} {F : NF} {body : Expr} (hok : HOk P w H h) (e : H f = some (LamO f F body)) : ∃ (od : Option Addr) (sl : Array (Option Value)) (pm ctv : Value), h.get? f = some (⟨.type "function", od, .func (lamFd F body pm ctv), sl⟩ : Obj) := (hok f _ e).1
/-! ### values that may be called -/
structure CV (P : Program) (w : World) (K : PySem.W.Frag) (mg : Str → Option Value) (base : Heap) (k : Nat) (f : Addr) (nd : Hp → Prop) (sp : Sp) : Prop where
  stay : ∀ H H', nd H → Same H H' → nd H'
  fn : ∀ h H, K.In h → HOk P w H h → nd H → PySem.W.FnAt f h
  run : ∀ (A : Around) (outer : List Env) (s : Shared) (H : Hp) (us : List Value) (vs : List V) (Q : VK) (E : XK), Room k A → Env0 P w K mg base A outer s H → nd H → Vals vs us → sp vs H Q E → codeAny (model P w) A (.call (.ref f) ⟨us, []⟩) (CR (L2N.CX P w) outer P w H s Q E) s
theorem CV.mono {P : Program} {w : World} {K : PySem.W.Frag} {mg : Str → Option Value} {base : Heap} {j k : Nat} {f : Addr} {nd : Hp → Prop} {sp : Sp} (c : CV P w K mg base j f nd sp) (h : j ≤ k) : CV P w K mg base k f nd sp := ⟨c.stay, c.fn, fun A outer s H us vs Q E hr => c.run A outer s H us vs Q E (hr.mono h)⟩
abbrev ndLam (f : Addr) (F : NF) (body : Expr) : Hp → Prop := fun H => H f = some (LamO f F body) ∧ H F.c = some (CodeO F.c F.qual)
/-- the promise of an expression over its parameters -/
def runE (n : Nat) (g : Den R0) : PFn := fun ds => if ds.length = n then (match g (entry n [] ds ()) with
  | .ok (val, τ) => some (.ok val τ.γ)
  | .exc e => some (.err e.C e.f e.γ)
  | .bad => none) else none
section
variable {P : Program} {w : World} {K : PySem.W.Frag} {mg : Str → Option Value} {base : Heap}
theorem aft_of {R : Rsc} {S H : Hp} {E : XK} {S' H' : Hp} {σ' : L2.St} {τ' : Tau R} (r : Rel ⟨R, S, H, E⟩ S' H' σ' τ') : After R S H τ'.γ S' H' := by
  refine ⟨r.s0, r.ent, fun b o e => ?_, r.sub, r.res⟩
  by_cases m : R.M b
  · have z := r.mS b m
    rw [e] at z
    cases z
  · exact (r.new b o e).imp id fun z => ⟨m, z⟩
theorem vok_rok {R : Rsc} {S H : Hp} {E : XK} {S' H' : Hp} {σ' : L2.St} {sl : List Sl} {v : V} {val : Val} (k : VOk ⟨R, S, H, E⟩ S' H' σ' sl v val) : ROk R H S' H' v val := by
  cases val with
  | sh d => exact k
  | fr ds =>
    obtain ⟨a, vs, e, h1, h2, h3, h4, _, h5⟩ := k
    exact ⟨a, vs, e, h1, h2, h3, h4, h5⟩
  | fd ds =>
    obtain ⟨a, vs, e, h1, h2, h3, h4, _, h5⟩ := k
    exact ⟨a, vs, e, h1, h2, h3, h4, h5⟩
  | rw w => exact k
  | bo _ => trivial
  | bd _ => trivial
theorem cv_lam {N : List Str} {F : NF} {body : Expr} {f : Addr} {k : Nat} {g : Den R0} (Sc : NScope N N [] F.scope) (hcl : F.cl = [])
    (hb : ∀ (pm ctv : Value) (us : List Value), us.length = N.length → bindArgs (lamFd F body pm ctv) ⟨us, []⟩ = pure (N.zip us))
    (hbody : ∀ (A : Around) (outer : List Env) (s : Shared) (S H : Hp) (E : XK), Room k (A.deeper (envF F f s.heap.objs.size)) → ∃ t, DE ⟨R0, S, H, E⟩ (ncx (L2N.CX P w) P w K mg base N F f A outer s H E) body t g) :
    CV P w K mg base (k + 1) f (ndLam f F body) (spP (runE N.length g)) := by
  refine ⟨fun H H' ⟨h1, h2⟩ sm => ⟨sm _ _ h1, sm _ _ h2⟩, fun h H _ hok ⟨h1, _⟩ => ?_, fun A outer s H us vs Q E hr e0 ⟨hf, hc⟩ r hsp => ?_⟩
  · obtain ⟨od, sl, pm, ctv, e⟩ := lamO_at hok h1
    exact ⟨_, od, _, sl, e⟩
  · obtain ⟨ws, S, γ, ds, r0, e0', hS, hM, hok, ha, e, ret⟩ := hsp
    have e1 : ws = vs := e0'.symm
    subst e1
    obtain ⟨od, sl, pm, ctv, ho⟩ := lamO_at e0.hok hf
    unfold runE at e
    obtain ⟨hl, e⟩ := ite_some e
    have hlw : ws.length = N.length := (Paired.length ha).trans hl
    have lim : s.heap.NoLimit := e0.mod.nolimit.keeps fun b o e => (e0.bs b o e).1
    refine PySem.W.kla_callFunE hr.depth ho rfl Sc.co Sc.gen rfl (NdefX.codeO_at e0.hok hc) ?_
    rw [hb pm ctv us (r.length.symm.trans hlw)]
    refine wpAny_pure (wpAny_newFunctionEnv Sc.nocell (fun ⟨n, _⟩ hy => Sc.par n (List.of_mem_zip hy).1) (fun h₁ hns hsb => ⟨lim.fresh _ hsb, ?_⟩) Sc.kind)
    show codeAny _ _ (.expr body (envF F f s.heap.objs.size)) _ _
    have kp : ∀ b o, s.heap.get? b = some o → h₁.get? b = some o := fun b o e => hsb.extBut b o (Nat.ne_of_lt (Heap.lt_size e)) (Heap.get?_push_of_some _ e)
    have C : CellsAt F.cl [] [] s.heap H := by
      rw [hcl]
      exact ⟨rfl, fun y c e => (by cases e), fun x y c e => (by cases e), fun i y e => (by simp at e)⟩
    obtain ⟨t, D⟩ := hbody A outer s S H E (hr.deeper _)
    have I := inv_startN (CX := L2N.CX P w) (f := f) (E := E) (tk := s.toks + (N.zip us).length) Sc hr.hd e0 hlw r C hns kp
    have est : startF N ws [] = L2.start N ([] ++ ws) := by
      unfold startF L2.start
      simp
    have Rl := entry_rel (E := E) (R := R0) (pre := []) (γ := γ) (N := N) hS hM hok ha (by rw [List.nil_append, hlw]; exact Nat.le_refl _)
    rw [← est] at Rl
    have ht : t (startF N ws []) H Q := by
      refine D.sd S H _ _ Q Rl ?_
      split at e
      · rename_i val τ' eg
        cases e
        rw [eg]
        intro v S' H' _ Rv kv _
        exact ret v S' H' (aft_of Rv) (vok_rok kv)
      · rename_i x eg
        cases e
        rw [eg]
        intro S' H' σ' τ' d _ Rx ex xd
        have z := aft_of Rx
        exact ret d S' H' z xd
      · cases e
    refine PySem.W.kla_codeExpr (wpAny_mono (D.pe.run [] _ _ H Q I ht) (fun v s' hq => ?_) fun e s' hq => hq)
    obtain ⟨w', H', J', rv, q⟩ := hq
    exact ⟨w', H', J'.os, J'.bare, J'.base, J'.hok, rv, q⟩
end
/-! ### a call of such a value by a name -/
def tCallV (i : Nat) (f : Addr) (nd : Hp → Prop) (sp : Sp) (E : XK) (t : TA) : TE := fun σ H Q => σ[i]? = some (some (.ref f)) ∧ nd H ∧ t σ H fun vs H1 => nd H1 ∧ sp vs H1 Q E
section
variable {X : Cx} {i k : Nat} {f : Addr} {nd : Hp → Prop} {sp : Sp} {E : XK} {t : TA} {x : Str} {e : Expr} {es : List Expr} {p pos : Pos}
theorem pe_callV (c : CV X.prog X.w X.K X.mg X.base k f nd sp) (hr : Room k X.A) (hx : Passes (L2N.CX X.prog X.w) X E) (hN : X.N[i]? = some x) (hv : Vis X.env.scope x) (ha : PA X (e :: es) t)
    (hd : (x == ("__debug__" : Str)) = false := by decide) (hcd : (x == ("__classdict__" : Str)) = false := by decide)
    (he : starEach (e :: es) X.env = (false, eval e X.env) :: starEach es X.env := by rfl) (hpl : (backTo pos (starEach es X.env)).any (·.1) = false := by rfl) :
    PE X (.Call (.Name x p) (e :: es) [] pos) (tCallV i f nd sp E t) := by
  refine ⟨fun pins s σ H Q I ⟨hs, hn, ht⟩ => ?_⟩
  refine wpAny_Call_Name_kw (thn ((pe_var (pos := p) hN hv hd hcd).run pins s σ H (fun v H1 => v = .ref f ∧ H1 = H) I ⟨.ref f, hs, rfl, rfl⟩) fun u s1 ⟨v, H1, I1, r1, q1⟩ => ?_)
  obtain ⟨rfl, rfl⟩ := q1
  obtain rfl : u = Value.ref f := r1
  refine PySem.W.callWith_F (first := []) (c.fn _ _ I1.kIn I1.hok hn) (thn (ha.run pos pins s1 σ _ _ I1 ht) fun us s2 ⟨vs, H2, I2, r, n2, q⟩ => ⟨c.fn _ _ I2.kIn I2.hok n2, ?_⟩) he hpl
  show wpAny _ _ (call (.ref f) us) _ _ _
  refine wpAny_call (codeAny_mono (c.run X.A X.stack s2 H2 us vs Q E hr I2.env0 n2 r q) fun r s' hq => ?_)
  cases r with
  | error e => exact hx pins σ H2 s2 e s' I2 hq
  | ok fl =>
    cases fl with
    | ret u => exact I2.after hq
    | next => exact False.elim hq
    | brk => exact False.elim hq
    | cont => exact False.elim hq
end
def outX {R : Rsc} (F : PFn) (p : List Val × Tau R) : Out (Exn R) (Val × Tau R) := match allData p.1 with
  | some ds => match F ds with
    | some (.ok val _) => if val.out = true then .ok (val, p.2) else .bad
    | some (.err C f _) => .exc ⟨C, f, p.2.γ⟩
    | _ => .bad
  | none => .bad
theorem callX_in {B : Bs} {F : PFn} {y : List Val} {τ1 : Tau B.R} {vs : List V} {S1 H1 : Hp} {σ : L2.St} {Q : VK} (R1 : Rel B S1 H1 σ τ1) (o1 : Paired (fun v val => VOk B S1 H1 σ τ1.sl v val) vs y) (h1 : Sat B (okV B σ) S1 H1 τ1 (outX F (y, τ1)) Q) : spP F vs H1 Q B.E := by
  unfold outX at h1
  cases e : allData y with
  | none => simp only [e] at h1; exact h1.elim
  | some ds =>
    simp only [e] at h1
    have ka := args_ok (RR := R0) (fun _ z => z.elim) R1 o1 e
    cases ef : F ds with
    | none => simp only [ef] at h1; exact h1.elim
    | some r =>
      simp only [ef] at h1
      refine ⟨vs, S1, (), ds, r, (List.nil_append _).symm, R1.sub, fun _ z => z.elim, trivial, ka, ef, ?_⟩
      cases r with
      | ok val u =>
        simp only at h1
        by_cases ho : val.out = true
        · rw [if_pos ho] at h1
          intro v S' H' a k
          have a' := a.pure R1
          obtain ⟨kv, kf⟩ := k.v R1 (out_bo ho).1 (out_bo ho).2
          exact h1 v S' H' (Gro.grown R1 a') (R1.grown a') kv kf
        · rw [if_neg ho] at h1
          exact h1.elim
      | err C f u =>
        intro d S' H' a x
        have a' := a.pure R1
        exact h1 S' H' σ ⟨τ1.sl, τ1.γ⟩ d a'.s (R1.grown a') rfl x
def dCallV {R : Rsc} (i : Nat) (f : Addr) (F : PFn) (g : DenA R) : Den R := fun τ => match τ.sl[i]? with
  | some (.rw v) => if v = .ref f then dCallX F g τ else .bad
  | _ => .bad
section
variable {X : Cx} {S0 H0 : Hp} {E : XK} {i k : Nat} {f : Addr} {nd : Hp → Prop} {F : PFn} {t : TA} {g : DenA R0} {x : Str} {e : Expr} {es : List Expr} {p pos : Pos}
theorem de_callV (c : CV X.prog X.w X.K X.mg X.base k f nd (spP F)) (hn : nd H0) (hr : Room k X.A) (hx : Passes (L2N.CX X.prog X.w) X E) (hN : X.N[i]? = some x) (hv : Vis X.env.scope x) (ha : DA ⟨R0, S0, H0, E⟩ X (e :: es) t g)
    (hd : (x == ("__debug__" : Str)) = false := by decide) (hcd : (x == ("__classdict__" : Str)) = false := by decide)
    (he : starEach (e :: es) X.env = (false, eval e X.env) :: starEach es X.env := by rfl) (hpl : (backTo pos (starEach es X.env)).any (·.1) = false := by rfl) :
    DE ⟨R0, S0, H0, E⟩ X (.Call (.Name x p) (e :: es) [] pos) (tCallV i f nd (spP F) E t) (dCallV i f F g) := by
  refine ⟨pe_callV c hr hx hN hv ha.pe hd hcd he hpl, fun S H σ τ Q R q => ?_⟩
  unfold dCallV at q
  split at q
  · rename_i v e0
    split at q
    · rename_i ev
      subst ev
      have hs : σ[i]? = some (some (.ref f)) := R.sl i _ e0
      have stays : ∀ {S' H' : Hp} {τ' : Tau R0}, Rel ⟨R0, S0, H0, E⟩ S' H' σ τ' → nd H' := fun r => c.stay _ _ hn fun b o eb => r.ent b o (fun z => z) eb
      refine ⟨hs, stays R, ?_⟩
      refine ha.sd S H σ τ _ R ?_
      have q : Sat ⟨R0, S0, H0, E⟩ (okV _ σ) S H τ (dCallX F g τ) Q := q
      refine Sat.step (f := outX F) q fun y τ1 vs S1 H1 eg G1 R1 o1 f1 h1 => ⟨stays R1, ?_⟩
      exact callX_in R1 o1 h1
    · exact q.elim
  · exact q.elim
end
end Kn
set_option Elab.async false
set_option linter.all false
set_option maxRecDepth 100000
set_option maxHeartbeats 4000000
namespace Kn
open PySem PySem.Spec L2
open PyProof.Rows hiding St
/-! ### try over data -/
def dTry {R : Rsc} (gb : DenS R) (gh : Exn R → Out (Exn R) (Fl R)) : DenS R := fun τ => match gb τ with
  | .exc e => gh e
  | x => x
section
variable {R : Rsc} {S0 H0 S H : Hp} {E E' : XK} {σ σ' : L2.St} {τ : Tau R}
theorem slok_e {x : Option (Option V)} {s : Sl} (k : SlOk ⟨R, S0, H0, E⟩ S H x s) : SlOk ⟨R, S0, H0, E'⟩ S H x s := by cases s <;> exact k
theorem Rel.toE (r : Rel ⟨R, S0, H0, E⟩ S H σ τ) : Rel ⟨R, S0, H0, E'⟩ S H σ τ := ⟨r.sub, r.ent, r.s0, r.new, r.mS, r.len, fun i s e => slok_e (r.sl i s e), r.dis, r.res, r.m0⟩
theorem vok_e {sl : List Sl} {v : V} {val : Val} (k : VOk ⟨R, S0, H0, E⟩ S H σ sl v val) : VOk ⟨R, S0, H0, E'⟩ S H σ sl v val := by cases val <;> exact k
theorem un_of {n i : Nat} {s : Sl} (e : (List.replicate n Sl.un)[i]? = some s) : s = .un := by
  obtain ⟨h1, h2⟩ := List.getElem?_eq_some_iff.mp e
  rw [List.getElem_replicate] at h2
  exact h2.symm
theorem Rel.bare {B : Bs} {τ : Tau B.R} (r : Rel B S H σ τ) {n : Nat} (hl : σ'.length = n) : Rel B S H σ' ⟨List.replicate n .un, τ.γ⟩ :=
  ⟨r.sub, r.ent, r.s0, r.new, r.mS, by rw [List.length_replicate]; exact hl, fun i s e => by rw [un_of e]; trivial, fun i j s s' b e1 e2 o1 o2 _ _ => (by rw [un_of e1] at o1; cases o1), r.res, r.m0⟩
end
section
variable {X : Cx} {B : Bs} {n : Str} {i : Nat}
theorem ds_tryA {body : List Stmt} {h₀ : ExceptHandler} {hds : List ExceptHandler} {l : List Cl} {pos : Pos} {tb : XK → TS} {gb : DenS B.R} {gh : Exn B.R → Out (Exn B.R) (Fl B.R)} (hs : X.stack = X.env :: X.outer) (hf : X.env.frame = some X.env.locals) (hN : X.N.Nodup) (hi : X.N[i]? = some n) (hln : X.env.kindOf n = some .local)
    (tk : L2N.Takes X (fun cls d _ H => B.E cls d H))
    (hb : ∀ (E' : XK) (pn : List (Addr × Obj)) (xe : Value → Shared → Prop), Passes (L2N.CX X.prog X.w) (X.tr pn xe) E' → DSs ⟨B.R, B.S0, B.H0, E'⟩ (X.tr pn xe) body (tb E') gb)
    (hh : HdsA X n (h₀ :: hds) l)
    (land : ∀ (e : Exn B.R) (D : Ends) (S H : Hp) (σ : L2.St) (d : Option Addr), Rel B S H σ ⟨List.replicate X.N.length .un, e.γ⟩ → ExD H d e.f → SatS B S (gh e) D → wA X.K (fun cls d _ H => B.E cls d H) D i l (.ref e.C) d σ H) :
    DS B X (.Try body (h₀ :: hds) [] [] pos) (fun D σ H => tb (fun cls d H' => ∀ σ' : L2.St, σ'.length = X.N.length → wA X.K (fun cls d _ H => B.E cls d H) D i l cls d σ' H') D σ H) (dTry gb gh) := by
  refine ⟨ps_tryA (tb := fun W => tb fun cls d H' => ∀ σ' : L2.St, W cls d σ' H') hs hf hN hi hln tk (fun W pn xe tkW _ => (hb (fun cls d H' => ∀ σ' : L2.St, W cls d σ' H') pn xe (L2N.passes_call tkW fun _ _ σ _ h => h σ)).pe) hh, fun S H σ τ D R q => ?_⟩
  refine (hb (fun cls d H' => ∀ σ' : L2.St, σ'.length = X.N.length → wA X.K (fun cls d _ H => B.E cls d H) D i l cls d σ' H') [] (fun _ _ => True) (fun _ _ _ _ _ _ _ _ => True.intro)).sd S H σ τ D R.toE ?_
  unfold dTry at q
  cases e : gb τ with
  | bad => rw [e] at q; exact q
  | exc x =>
    rw [e] at q
    intro S' H' σ1 τ1 d sm R1 eγ xd σ' hl
    have R2 : Rel B S' H' σ' ⟨List.replicate X.N.length .un, x.γ⟩ := by
      have z := (R1.toE (E' := B.E)).bare hl
      rw [eγ] at z
      exact z
    exact land x D S' H' σ' d R2 xd (SatS.mono (show SatS B S (gh x) D from q) sm)
  | ok f =>
    rw [e] at q
    cases f with
    | nx τ' => exact fun S' H' σ' s r => q S' H' σ' s r.toE
    | bk τ' => exact fun S' H' σ' s r => q S' H' σ' s r.toE
    | ct τ' => exact fun S' H' σ' s r => q S' H' σ' s r.toE
    | rt val τ' => exact fun v S' H' σ' s r k => q v S' H' σ' s r.toE (vok_e k)
/-! ### within an except suite -/
/-- isinstance(e, C), by the class value -/
def fIsE (a : Addr) (kin : V → Option Bool) : List Val → Option Val
  | [.rw v, .rw c] => if v = .ref a then (kin c).map fun b => .sh (.bool b) else none
  | _ => none
theorem s_isE {K : PySem.W.Frag} {D a : Addr} {kin : V → Option Bool} (hk : ∀ c b, kin c = some b → ∃ cv, (∀ u, RelV c u → u = cv) ∧ PySem.W.kitOne K (.ref D) cv = some b) : CallS B (rIsE K D a) (fIsE a kin) := by
  intro S H σ τ vs as c Q R ka e q
  unfold fIsE at e
  split at e
  · rename_i v cc
    cases ka with
    | cons k1 kr =>
      cases kr with
      | cons k2 kr2 =>
        cases kr2
        rename_i x1 x2
        have k1 : x1 = v := k1
        have k2 : x2 = cc := k2
        subst k1
        subst k2
        split at e
        · rename_i ev
          subst ev
          obtain ⟨b, e1, e2⟩ := Option.map_eq_some_iff.mp e
          subst e2
          obtain ⟨cv, h1, h2⟩ := hk _ _ e1
          exact ⟨_, cv, b, rfl, h1, h2, q _ S H .refl R (Dq.bl b) frS⟩
        · cases e
  · cases e
def dSeqL {R : Rsc} (g : Den R) : DenI R := fun τ => (g τ).bind fun p => match p.1 with
  | .sh (.list ds) => .ok (ds, p.2)
  | _ => .bad
variable {l elt tg : Expr} {tl : TE} {gl : Den B.R}
theorem sndI_list {K : PySem.W.Frag} (h : SndE B tl gl) : SndI B false (iList K tl) (dSeqL gl) := by
  refine fun S H σ τ R' R q => h S H σ τ _ R (Sat.step (f := fun p => match p.1 with
    | .sh (.list ds) => .ok (ds, p.2)
    | _ => .bad) q fun x τ1 v S1 H1 _ G1 R1 o1 _ h1 => ?_)
  cases x with
  | sh d =>
    cases d with
    | list ds =>
      cases o1 with
      | lst e k => exact ⟨_, rfl, ⟨_, SqL.of (R1.sub _ _ e)⟩, h1 _ S1 H1 .refl R1 (itok_list (J := Itl K 0) e k) trivial⟩
    | _ => exact h1.elim
  | _ => exact h1.elim
theorem snd_tup {es : List Expr} {K : PySem.W.Frag} {t : TGs} {n : Nat} {g : List PyData → Tau B.R → Option (Tau B.R)} {is : List Nat} (h : SndGs B t g is) (hn : ∀ ds τ τ', g ds τ = some τ' → ds.length = n) : SndG B false (gTup K n t) (setTup g) is := by
  intro S H σ τ v d τ' Q R k e q
  rcases k with k | ⟨z, _⟩
  · cases k with
    | tup h1 _ h2 =>
      have e : g _ τ = some τ' := e
      exact ⟨_, _, rfl, sqtF (R.sub _ _ h1), by rw [h2.len]; exact hn _ _ _ e, h S H σ τ _ _ τ' Q R h2 e q⟩
    | _ => cases e
  · cases z
theorem de_lcH {ifs : List Expr} {scope : Scope} {own : List (Str × Nat)} {pos : Pos} {g : TG} {tt : TT} {te : TE} {set : SetD B.R} {is : List Nat} {gt : DenT B.R} {ge : Den B.R} (hc : L2H.HotC X) (hN : X.N.Nodup) (hl : DE B X l tl gl) (ok : BlkOk X.N X.env.scope scope own)
    (hg : ∀ (s : Shared) (H : Hp) (C : Addr) (cl : List (Str × Addr)) (fp : List Addr), HotW (X.blk s H scope (compEnvC scope cl C X.env) fp) → PG (X.blk s H scope (compEnvC scope cl C X.env) fp) tg g) (sg : SndG B false g set is)
    (ht : ∀ (s : Shared) (H : Hp) (C : Addr) (cl : List (Str × Addr)) (fp : List Addr), DTs B (X.blk s H scope (compEnvC scope cl C X.env) fp) ifs tt gt)
    (he : ∀ (s : Shared) (H : Hp) (C : Addr) (cl : List (Str × Addr)) (fp : List Addr), DE B (X.blk s H scope (compEnvC scope cl C X.env) fp) elt te ge) (his : ∀ i ∈ is, i ∈ own.map (·.2)) (hs : ∀ x, foldedSetIterable l X.env x = pure x := by intro _; rfl) :
    DE B X (.ListComp elt [⟨tg, l, ifs, 0⟩] scope pos) (tLc (iList X.K tl) g tt te (own.map (·.2))) (dLc (dSeqL gl) set gt ge (own.map (·.2))) :=
  ⟨pe_lcH hc hN hl.pe ok hg (fun s H C cl fp => (ht s H C cl fp).pe) (fun s H C cl fp => (he s H C cl fp).pe) hs,
    snd_lc (sndI_list hl.sd) sg (ht X.s_0 X.H_0 0 [] []).sd (he X.s_0 X.H_0 0 [] []).sd his⟩
theorem hot_suite {a : Addr} {oe : Obj} {pn : List (Addr × Obj)} {cls : Value} {d : Option Addr} (hz : L2N.Zn cls d oe) (hd : ∃ vs, oe.data = .fields vs) : L2H.HotC (X.suite a ((a, oe) :: pn)) := by
  obtain ⟨vs, e⟩ := hd
  exact ⟨(a, oe), ⟨rfl, vs, e, hz.2.2 vs e⟩, List.mem_cons_self⟩
/-- readings that hold where something is known -/
theorem pss_ex {ι : Type} {sts : List Stmt} {t : ι → TS} {p : ι → Prop} (h : ∀ j, p j → PSs X sts (t j)) : PSs X sts (fun D σ H => ∃ j, p j ∧ t j D σ H) := ⟨fun pins s σ H D I ⟨j, hp, ht⟩ => (h j hp).run pins s σ H D I ht⟩
theorem pss_no {sts : List Stmt} : PSs X sts (fun _ _ _ => False) := ⟨fun _ _ _ _ _ _ h => h.elim⟩
end
end Kn
set_option Elab.async false
set_option linter.all false
set_option maxRecDepth 100000
set_option maxHeartbeats 4000000
namespace Kn
open PySem PySem.Spec L2
open PyProof.Rows hiding St
/-! ### the classes of a refusal, told by names -/
abbrev nine : List Str := ["NoRow", "NoOrder", "NoSeat", "NoLeavings", "NoNumbers", "NoNumber", "NoRules", "NoTimes", "NothingLeft"]
abbrev refAll : List Str := ("TooMany" : Str) :: ("Taken" : Str) :: ("NotThere" : Str) :: ("RowError" : Str) :: nine
theorem nine_all {x : Str} (h : x ∈ nine) : x ∈ refAll := List.mem_cons_of_mem _ (List.mem_cons_of_mem _ (List.mem_cons_of_mem _ (List.mem_cons_of_mem _ h)))
/-- what must be seen of the classes; ws: the names of those that are raised -/
structure RefK (K : PySem.W.Frag) (mg : Str → Option Value) (cl : Str → Addr) (ws : List Str) : Prop where
  g : ∀ x ∈ refAll, mg x = some (.ref (cl x))
  no : ∀ w ∈ ws, ∀ x ∈ (["TooMany", "Taken", "NotThere"] : List Str), PySem.W.exmOne K (.ref (cl w)) (.ref (cl x)) = some false
  yes : ∀ w ∈ ws, PySem.W.exmOne K (.ref (cl w)) (.ref (cl "RowError")) = some true
  ex : ∀ w ∈ ws, ExcC K (cl w)
  xc : ∀ w ∈ ws, ExC K mg w (cl w)
  ve : ∀ w ∈ ws, PySem.W.kitOne K (.ref (cl w)) (.type "ValueError") = some true
  veb : mg "ValueError" = none
  kin : ∀ w ∈ ws, ∀ x ∈ nine, PySem.W.kitOne K (.ref (cl w)) (.ref (cl x)) = some (x == w)
def kin1 (c : V) (b : Bool) : V → Option Bool := fun c' => if c' = c then some b else none
def isD {R : Rsc} (a : Addr) (c : V) (b : Bool) : Den R := dCB (fIsE a (kin1 c b)) (dCons (dBor 6) (dCons (dRaw c) dNil))
section
variable {X : Cx} {B : Bs} {cl : Str → Addr} {ws : List Str} {w : Str} {a : Addr} {oe : Obj} {pn : List (Addr × Obj)}
theorem de_isN {x : Str} {p q r pos : Pos} (k : RefK X.K X.mg cl ws) (hw : w ∈ ws) (hz : L2N.Zn (.ref (cl w)) none oe) (hd : ∃ vs, oe.data = .fields vs) (hi : X.mg "isinstance" = none) (hgi : Gl X "isinstance") (hg : Gl X x) (hN : X.N[6]? = some ("e" : Str)) (hv : Vis X.env.scope "e") (hx : x ∈ nine) (hdb : (x == ("__debug__" : Str)) = false := by decide)
    (he : starEach [.Name "e" q, .Name x r] X.env = (false, eval (.Name "e" q) X.env) :: starEach [.Name x r] X.env := by rfl) (he2 : starEach [.Name x r] X.env = (false, eval (.Name x r) X.env) :: starEach [] X.env := by rfl) (hpl : (backTo pos (starEach [.Name x r] X.env)).any (·.1) = false := by rfl) {K : PySem.W.Frag} (hK : X.K = K := by rfl) :
    DE B (X.suite a ((a, oe) :: pn)) (.Call (.Name "isinstance" p) [.Name "e" q, .Name x r] [] pos) (tCB (rIsE K (cl w) a) (tCons (tVar 6) (tCons (tC (.ref (cl x))) tNil))) (isD a (.ref (cl x)) (x == w)) := by
  subst hK
  refine de_cb (X := X.suite a ((a, oe) :: pn)) (call_isE (k.ex w hw) hz.zc hd) (s_isE fun c b e => ?_) hgi hi (by decide +kernel) (da_cons (de_bor 6 hN hv) (da_cons (de_glob (X := X.suite a ((a, oe) :: pn)) hg (k.g x (nine_all hx)) rfl hdb) da_nil he2) he) (by decide) (by decide) he hpl
  unfold kin1 at e
  split at e
  · rename_i ec
    cases e
    subst ec
    exact ⟨_, fun u z => z, k.kin w hw x hx⟩
  · cases e
theorem de_isV {p q r pos : Pos} (k : RefK X.K X.mg cl ws) (hw : w ∈ ws) (hz : L2N.Zn (.ref (cl w)) none oe) (hd : ∃ vs, oe.data = .fields vs) (hi : X.mg "isinstance" = none) (hgi : Gl X "isinstance") (hg : Gl X "ValueError") (hN : X.N[6]? = some ("e" : Str)) (hv : Vis X.env.scope "e")
    (he : starEach [.Name "e" q, .Name "ValueError" r] X.env = (false, eval (.Name "e" q) X.env) :: starEach [.Name "ValueError" r] X.env := by rfl) (he2 : starEach [.Name "ValueError" r] X.env = (false, eval (.Name "ValueError" r) X.env) :: starEach [] X.env := by rfl) (hpl : (backTo pos (starEach [.Name "ValueError" r] X.env)).any (·.1) = false := by rfl) {K : PySem.W.Frag} (hK : X.K = K := by rfl) :
    DE B (X.suite a ((a, oe) :: pn)) (.Call (.Name "isinstance" p) [.Name "e" q, .Name "ValueError" r] [] pos) (tCB (rIsE K (cl w) a) (tCons (tVar 6) (tCons (tC (.ty "ValueError")) tNil))) (isD a (.ty "ValueError") true) := by
  subst hK
  refine de_cb (X := X.suite a ((a, oe) :: pn)) (call_isE (k.ex w hw) hz.zc hd) (s_isE fun c b e => ?_) hgi hi (by decide +kernel) (da_cons (de_bor 6 hN hv) (da_cons (de_bltn (X := X.suite a ((a, oe) :: pn)) hg k.veb (by decide +kernel) rfl) da_nil he2) he) (by decide) (by decide) he hpl
  unfold kin1 at e
  split at e
  · rename_i ec
    cases e
    subst ec
    exact ⟨_, fun u z => z, k.ve w hw⟩
  · cases e
theorem be_lcH {K : PySem.W.Frag} {l elt tg : Expr} {tl : TE} {gl : Den B.R} {ifs : List Expr} {scope : Scope} {own : List (Str × Nat)} {pos : Pos} {g : TG} {tt : TT} {te : TE} {set : SetD B.R} {is : List Nat} {gt : DenT B.R} {ge : Den B.R} (hc : L2H.HotC X) (hN : X.N.Nodup) (hl : DE B X l tl gl) (ok : BlkOk X.N X.env.scope scope own)
    (hg : ∀ (s : Shared) (H : Hp) (C : Addr) (cl : List (Str × Addr)) (fp : List Addr), HotW (X.blk s H scope (compEnvC scope cl C X.env) fp) → PG (X.blk s H scope (compEnvC scope cl C X.env) fp) tg g) (sg : SndG B false g set is)
    (ht : ∀ (s : Shared) (H : Hp) (C : Addr) (cl : List (Str × Addr)) (fp : List Addr), DTs B (X.blk s H scope (compEnvC scope cl C X.env) fp) ifs tt gt)
    (he : ∀ (s : Shared) (H : Hp) (C : Addr) (cl : List (Str × Addr)) (fp : List Addr), DE B (X.blk s H scope (compEnvC scope cl C X.env) fp) elt te ge) (his : ∀ i ∈ is, i ∈ own.map (·.2)) (hs : ∀ x, foldedSetIterable l X.env x = pure x := by intro _; rfl) (hK : X.K = K := by rfl) :
    DE B X (.ListComp elt [⟨tg, l, ifs, 0⟩] scope pos) (tLc (iList K tl) g tt te (own.map (·.2))) (dLc (dSeqL gl) set gt ge (own.map (·.2))) := by
  subst hK
  exact de_lcH hc hN hl ok hg sg ht he his hs
theorem pg_tupK {K : PySem.W.Frag} {es : List Expr} {k : Nat} {t : TGs} {n : Nat} {pos : Pos} (hc : HotW X) (h : PGs X es t) (hn : (assignEach es X.env).length = n := by rfl) (hst : (assignEach es X.env).findIdx? (·.1) = none := by rfl) (hK : X.K = K := by rfl) : PG X (.Tuple es k pos) (gTup K n t) := by
  subst hK
  exact pg_tup_hot hc h hn hst
end
/-! ### what the suite of RowError reckons -/
section
variable {a : Addr} {cl : Str → Addr} {w : Str}
def nmD (a : Addr) (cl : Str → Addr) (w x : Str) : Den R0 := dTup (dCons (dC (.str x)) (dCons (isD a (.ref (cl x)) (x == w)) dNil))
def g4 (cl : Str → Addr) (w : Str) (a : Addr) : DenS R0 :=
  dThen (dSet 7 (dLst (dCons (nmD a cl w "NoRow") (dCons (nmD a cl w "NoOrder") dNil))))
  (dThen (dSet 7 (dOp fAdd (dBor 7) (dLst (dCons (nmD a cl w "NoSeat") dNil))))
  (dThen (dSet 7 (dOp fAdd (dBor 7) (dLst (dCons (nmD a cl w "NoLeavings") (dCons (nmD a cl w "NoNumbers") dNil)))))
  (dThen (dSet 7 (dOp fAdd (dBor 7) (dLst (dCons (nmD a cl w "NoNumber") (dCons (nmD a cl w "NoRules") dNil)))))
  (dThen (dSet 7 (dOp fAdd (dBor 7) (dLst (dCons (nmD a cl w "NoTimes") (dCons (nmD a cl w "NothingLeft") dNil)))))
  (dSet 5 (dOp fAdd (dLc (dSeqL (dVar 7)) (setTup (setCons (setN 8) (setCons (setN 9) setNil))) (dTest (dBor 9)) (dVar 8) [8, 9]) (dLst (dCons (isD a (.ty "ValueError") true) dNil))))))))
/-- the refusal's names -/
def kinL (w : Str) : List PyData := (nine.filter fun x => x == w).map PyData.str ++ [.bool true]
theorem isD_ev {τ : Tau R0} {c : V} {b : Bool} (h : τ.sl[6]? = some (.rw (.ref a))) : isD a c b τ = .ok (.sh (.bool b), τ) := by
  unfold isD
  simp [dCB, dCons, dRaw, dNil, fIsE, kin1, dBor, h]
theorem nmD_ev {τ : Tau R0} {x : Str} (h : τ.sl[6]? = some (.rw (.ref a))) : nmD a cl w x τ = .ok (.sh (.tuple [.str x, .bool (x == w)]), τ) := by
  unfold nmD
  simp [dTup, dCons, dC, isD_ev h, dNil, allSh]
theorem kin_go {s0 s1 s2 s3 s4 s5 s6 s7 : Sl} {γ : Unit} : ∀ (xs : List Str) (acc : List PyData), lcGo (setTup (setCons (setN 8) (setCons (setN 9) setNil))) (dTest (dBor 9)) (dVar 8) [8, 9] (xs.map fun x => .tuple [.str x, .bool (x == w)]) acc (⟨[s0, s1, s2, s3, s4, s5, s6, s7, .un, .un], γ⟩ : Tau R0)
    = .ok (acc ++ (xs.filter fun x => x == w).map PyData.str, ⟨[s0, s1, s2, s3, s4, s5, s6, s7, .un, .un], γ⟩)
  | [], acc => by simp [lcGo]
  | x :: xs, acc => by
    have ih := kin_go (s0 := s0) (s1 := s1) (s2 := s2) (s3 := s3) (s4 := s4) (s5 := s5) (s6 := s6) (s7 := s7) (γ := γ) xs
    have q1 : setTup (setCons (setN 8) (setCons (setN 9) setNil)) (.tuple [.str x, .bool (x == w)]) (⟨[s0, s1, s2, s3, s4, s5, s6, s7, .un, .un], γ⟩ : Tau R0) = some ⟨[s0, s1, s2, s3, s4, s5, s6, s7, .sh (.str x), .sh (.bool (x == w))], γ⟩ := by
      simp [setTup, setCons, setN, setNil, Tau.put]
    have q2 : (dTest (dBor 9) : DenT R0) ⟨[s0, s1, s2, s3, s4, s5, s6, s7, .sh (.str x), .sh (.bool (x == w))], γ⟩ = .ok (x == w, ⟨[s0, s1, s2, s3, s4, s5, s6, s7, .sh (.str x), .sh (.bool (x == w))], γ⟩) := by
      simp [dTest, dBor]
    have q3 : (dVar 8 : Den R0) ⟨[s0, s1, s2, s3, s4, s5, s6, s7, .sh (.str x), .sh (.bool (x == w))], γ⟩ = .ok (.sh (.str x), ⟨[s0, s1, s2, s3, s4, s5, s6, s7, .sh (.str x), .sh (.bool (x == w))], γ⟩) := by
      simp [dVar]
    have q4 : (⟨[s0, s1, s2, s3, s4, s5, s6, s7, .sh (.str x), .sh (.bool (x == w))], γ⟩ : Tau R0).wipe [8, 9] = ⟨[s0, s1, s2, s3, s4, s5, s6, s7, .un, .un], γ⟩ := by
      simp [Tau.wipe, wipeS]
    rw [List.map_cons]
    unfold lcGo
    rw [q1]
    simp only [q2, Out.bind_ok]
    cases e : x == w with
    | true =>
      rw [e] at q3 q4
      simp only [if_true, q3, Out.bind_ok, q4]
      rw [ih, List.filter_cons_of_pos (by simpa using e)]
      simp
    | false =>
      rw [e] at q4
      simp only [Bool.false_eq_true, if_false, q4]
      rw [ih, List.filter_cons_of_neg (by simp [e])]
def wds (w : Str) : List PyData := nine.map fun x => .tuple [.str x, .bool (x == w)]
theorem g4_ev {γ : Unit} : g4 cl w a (⟨[.un, .un, .un, .un, .un, .un, .rw (.ref a), .un, .un, .un], γ⟩ : Tau R0) = .ok (.nx ⟨[.un, .un, .un, .un, .un, .ow (kinL w), .rw (.ref a), .sh (.list (wds w)), .un, .un], γ⟩) := by
  have c0 : (dLst (dCons (nmD a cl w "NoRow") (dCons (nmD a cl w "NoOrder") dNil)) : Den R0) ⟨[.un, .un, .un, .un, .un, .un, .rw (.ref a), .un, .un, .un], γ⟩ = .ok (.fr [.tuple [.str "NoRow", .bool (("NoRow" : Str) == w)], .tuple [.str "NoOrder", .bool (("NoOrder" : Str) == w)]], ⟨[.un, .un, .un, .un, .un, .un, .rw (.ref a), .un, .un, .un], γ⟩) := by
    simp [dLst, dCons, dNil, nmD_ev, allSh]
  have c1 : ∀ (x : Str) (ds : List PyData), ds.length + 1 ≤ sizeLine → (dOp fAdd (dBor 7) (dLst (dCons (nmD a cl w x) dNil)) : Den R0) ⟨[.un, .un, .un, .un, .un, .un, .rw (.ref a), .ow ds, .un, .un], γ⟩ = .ok (.fr (ds ++ [.tuple [.str x, .bool (x == w)]]), ⟨[.un, .un, .un, .un, .un, .un, .rw (.ref a), .ow ds, .un, .un], γ⟩) := fun x ds hz => by
    simp [hz, dOp, dBor, dLst, dCons, dNil, nmD_ev, allSh, fAdd, fAddI, fCatT, fCatL, f2I, Val.int, Val.tup, Val.lst]
  have c2 : ∀ (x y : Str) (ds : List PyData), ds.length + 2 ≤ sizeLine → (dOp fAdd (dBor 7) (dLst (dCons (nmD a cl w x) (dCons (nmD a cl w y) dNil))) : Den R0) ⟨[.un, .un, .un, .un, .un, .un, .rw (.ref a), .ow ds, .un, .un], γ⟩ = .ok (.fr (ds ++ [.tuple [.str x, .bool (x == w)], .tuple [.str y, .bool (y == w)]]), ⟨[.un, .un, .un, .un, .un, .un, .rw (.ref a), .ow ds, .un, .un], γ⟩) := fun x y ds hz => by
    simp [hz, dOp, dBor, dLst, dCons, dNil, nmD_ev, allSh, fAdd, fAddI, fCatT, fCatL, f2I, Val.int, Val.tup, Val.lst]
  have s7 : ∀ (g : Den R0) (s : Sl) (ds : List PyData), g ⟨[.un, .un, .un, .un, .un, .un, .rw (.ref a), s, .un, .un], γ⟩ = .ok (.fr ds, ⟨[.un, .un, .un, .un, .un, .un, .rw (.ref a), s, .un, .un], γ⟩) → dSet 7 g ⟨[.un, .un, .un, .un, .un, .un, .rw (.ref a), s, .un, .un], γ⟩ = .ok (.nx ⟨[.un, .un, .un, .un, .un, .un, .rw (.ref a), .ow ds, .un, .un], γ⟩) := fun g s ds h => by
    simp [dSet, h, Val.slot, Tau.put]
  have th : ∀ (g h : DenS R0) (τ τ' : Tau R0), g τ = .ok (.nx τ') → dThen g h τ = h τ' := fun g h τ τ' e => by
    unfold dThen
    rw [e]
    rfl
  unfold g4
  rw [th _ _ _ _ (s7 _ _ _ c0), th _ _ _ _ (s7 _ _ _ (c1 _ _ (by show 2 + 1 ≤ sizeLine; decide))), th _ _ _ _ (s7 _ _ _ (c2 _ _ _ (by show 3 + 2 ≤ sizeLine; decide))), th _ _ _ _ (s7 _ _ _ (c2 _ _ _ (by show 5 + 2 ≤ sizeLine; decide))), th _ _ _ _ (s7 _ _ _ (c2 _ _ _ (by show 7 + 2 ≤ sizeLine; decide)))]
  have all : ([PyData.tuple [.str "NoRow", .bool (("NoRow" : Str) == w)], .tuple [.str "NoOrder", .bool (("NoOrder" : Str) == w)]] ++ [.tuple [.str "NoSeat", .bool (("NoSeat" : Str) == w)]] ++ [.tuple [.str "NoLeavings", .bool (("NoLeavings" : Str) == w)], .tuple [.str "NoNumbers", .bool (("NoNumbers" : Str) == w)]] ++ [.tuple [.str "NoNumber", .bool (("NoNumber" : Str) == w)], .tuple [.str "NoRules", .bool (("NoRules" : Str) == w)]] ++ [.tuple [.str "NoTimes", .bool (("NoTimes" : Str) == w)], .tuple [.str "NothingLeft", .bool (("NothingLeft" : Str) == w)]]) = wds w := rfl
  rw [all]
  have lc : (dLc (dSeqL (dVar 7)) (setTup (setCons (setN 8) (setCons (setN 9) setNil))) (dTest (dBor 9)) (dVar 8) [8, 9] : Den R0) ⟨[.un, .un, .un, .un, .un, .un, .rw (.ref a), .ow (wds w), .un, .un], γ⟩ = .ok (.fr ((nine.filter fun x => x == w).map PyData.str), ⟨[.un, .un, .un, .un, .un, .un, .rw (.ref a), .sh (.list (wds w)), .un, .un], γ⟩) := by
    have q1 : (dSeqL (dVar 7) : DenI R0) ⟨[.un, .un, .un, .un, .un, .un, .rw (.ref a), .ow (wds w), .un, .un], γ⟩ = .ok (wds w, ⟨[.un, .un, .un, .un, .un, .un, .rw (.ref a), .sh (.list (wds w)), .un, .un], γ⟩) := by
      simp [dSeqL, dVar, Tau.put]
    have q2 : (⟨[.un, .un, .un, .un, .un, .un, .rw (.ref a), .sh (.list (wds w)), .un, .un], γ⟩ : Tau R0).wipe [8, 9] = ⟨[.un, .un, .un, .un, .un, .un, .rw (.ref a), .sh (.list (wds w)), .un, .un], γ⟩ := by
      simp [Tau.wipe, wipeS]
    have q3 : (wds w).length ≤ sizeLine := Nat.le_trans (show (wds w).length ≤ 9 from Nat.le_of_eq rfl) (by decide)
    have go := kin_go (w := w) (s0 := .un) (s1 := .un) (s2 := .un) (s3 := .un) (s4 := .un) (s5 := .un) (s6 := .rw (.ref a)) (s7 := .sh (.list (wds w))) (γ := γ) nine []
    unfold dLc
    rw [q1]
    simp only [Out.bind_ok, q2]
    rw [if_pos q3]
    have go : lcGo (setTup (setCons (setN 8) (setCons (setN 9) setNil))) (dTest (dBor 9)) (dVar 8) [8, 9] (wds w) [] (⟨[.un, .un, .un, .un, .un, .un, .rw (.ref a), .sh (.list (wds w)), .un, .un], γ⟩ : Tau R0) = _ := go
    rw [go]
    simp
  have vE : (dLst (dCons (isD a (.ty "ValueError") true) dNil) : Den R0) ⟨[.un, .un, .un, .un, .un, .un, .rw (.ref a), .sh (.list (wds w)), .un, .un], γ⟩ = .ok (.fr [.bool true], ⟨[.un, .un, .un, .un, .un, .un, .rw (.ref a), .sh (.list (wds w)), .un, .un], γ⟩) := by
    simp [dLst, dCons, dNil, isD_ev, allSh]
  have fin : (dOp fAdd (dLc (dSeqL (dVar 7)) (setTup (setCons (setN 8) (setCons (setN 9) setNil))) (dTest (dBor 9)) (dVar 8) [8, 9]) (dLst (dCons (isD a (.ty "ValueError") true) dNil)) : Den R0) ⟨[.un, .un, .un, .un, .un, .un, .rw (.ref a), .ow (wds w), .un, .un], γ⟩ = .ok (.fr (kinL w), ⟨[.un, .un, .un, .un, .un, .un, .rw (.ref a), .sh (.list (wds w)), .un, .un], γ⟩) := by
    unfold dOp
    rw [lc]
    simp only [Out.bind_ok, vE]
    have q : fAdd (.fr ((nine.filter fun x => x == w).map PyData.str)) (.fr [.bool true]) = some (.fr (kinL w)) := by
      have z : ((nine.filter fun x => x == w).map PyData.str).length + [PyData.bool true].length ≤ sizeLine := by
        have z1 := List.length_filter_le (fun x => x == w) nine
        have z2 : (9 : Nat) + 1 ≤ sizeLine := by decide
        rw [List.length_map]
        exact Nat.le_trans (Nat.add_le_add_right z1 1) z2
      unfold fAdd fAddI fCatT fCatL f2I
      simp only [Val.int, Val.tup, Val.lst, Option.none_or, kinL]
      rw [if_pos z]
    rw [q]
  unfold dSet
  rw [fin]
  simp [Val.slot, Tau.put]
end
end Kn
set_option Elab.async false
set_option linter.all false
set_option maxRecDepth 100000
set_option maxHeartbeats 4000000
namespace Kn
open PySem PySem.Spec L2
open PyProof.Rows hiding St
/-! ### what is refused, told by a def that got the call -/
def nmOf (cl : Str → Addr) (ws : List Str) (C : Addr) : Option Str := ws.find? fun w => cl w == C
theorem nmOf_some {cl : Str → Addr} {ws : List Str} {C : Addr} {w : Str} (h : nmOf cl ws C = some w) : w ∈ ws ∧ cl w = C := ⟨List.mem_of_find?_eq_some h, by simpa using List.find?_some h⟩
def ghRef (cl : Str → Addr) (ws : List Str) : Exn R0 → Out (Exn R0) (Fl R0) := fun e => match nmOf cl ws e.C, e.f with
  | some w, none => .ok (.nx ⟨[.un, .un, .un, .un, .un, .ow (kinL w), .un, .un, .un, .un], e.γ⟩)
  | _, _ => .bad
abbrev NRef : List Str := ["call", "one", "two", "three", "four", "kin", "e", "words", "word", "there"]
theorem Rel.weakS {B : Bs} {S H : Hp} {σ σ' : L2.St} {τ τ' : Tau B.R} (r : Rel B S H σ τ) (hl : σ'.length = τ'.sl.length) (hγ : τ'.γ = τ.γ) (h : ∀ (i : Nat) (s : Sl), τ'.sl[i]? = some s → s = Sl.un ∨ (τ.sl[i]? = some s ∧ σ'[i]? = σ[i]?)) : Rel B S H σ' τ' := by
  refine ⟨r.sub, r.ent, r.s0, r.new, r.mS, hl, fun i s e => ?_, fun i j s s' b e1 e2 o1 o2 f1 f2 => ?_, by rw [hγ]; exact r.res, r.m0⟩
  · rcases h i s e with rfl | ⟨h1, h2⟩
    · trivial
    · rw [h2]
      exact r.sl i s h1
  · rcases h i s e1 with rfl | ⟨h1, h2⟩
    · cases o1
    · rcases h j s' e2 with rfl | ⟨h3, h4⟩
      · cases o2
      · exact r.dis i j s s' b h1 h3 o1 o2 (by rw [← h2]; exact f1) (by rw [← h4]; exact f2)
section
variable {X : Cx} {S0 H0 : Hp} {E : XK} {cl : Str → Addr} {ws : List Str}
theorem ref_try {body sts1 sts2 sts3 sts4 : List Stmt} {st1 st2 st3 st4 : Stmt} {p1 p2 p3 p4 q1 q2 q3 q4 pos : Pos} {t4 : Addr → Str → TS} {tb : XK → TS} {gb : DenS R0} (k : RefK X.K X.mg cl ws) (hXN : X.N = NRef) (hs : X.stack = X.env :: X.outer) (hf : X.env.frame = some X.env.locals) (hln : X.env.kindOf "e" = some .local)
    (tk : L2N.Takes X (fun cls d _ H => E cls d H)) (g1 : Gl X "TooMany") (g2 : Gl X "Taken") (g3 : Gl X "NotThere") (g4' : Gl X "RowError")
    (hb : ∀ (E' : XK) (pn : List (Addr × Obj)) (xe : Value → Shared → Prop), Passes (L2N.CX X.prog X.w) (X.tr pn xe) E' → DSs ⟨R0, S0, H0, E'⟩ (X.tr pn xe) body (tb E') gb)
    (h4 : ∀ (a : Addr) (w : Str), w ∈ ws → ∀ (oe : Obj) (pn : List (Addr × Obj)), L2N.Zn (.ref (cl w)) none oe → (∃ vs, oe.data = .fields vs) → DSs ⟨R0, S0, H0, E⟩ (X.suite a ((a, oe) :: pn)) (st4 :: sts4) (t4 a w) (g4 cl w a)) :
    ∃ t, DS ⟨R0, S0, H0, E⟩ X (.Try body [.ExceptHandler (some (.Name "TooMany" p1)) (some "e") (st1 :: sts1) q1, .ExceptHandler (some (.Name "Taken" p2)) (some "e") (st2 :: sts2) q2, .ExceptHandler (some (.Name "NotThere" p3)) (some "e") (st3 :: sts3) q3, .ExceptHandler (some (.Name "RowError" p4)) (some "e") (st4 :: sts4) q4] [] [] pos) t (dTry gb (ghRef cl ws)) := by
  have m : ∀ {x : Str}, Gl X x → (x == ("__debug__" : Str)) = false → x ∈ refAll → Names X x (.ref (cl x)) := fun hg hd hx => ⟨hg, hd, .inl (k.g _ hx)⟩
  refine ⟨_, ds_tryA (i := 6) (n := "e") (l := [(.ref (cl "TooMany"), fun _ _ _ _ _ _ => False), (.ref (cl "Taken"), fun _ _ _ _ _ _ => False), (.ref (cl "NotThere"), fun _ _ _ _ _ _ => False), (.ref (cl "RowError"), fun a cls d D σ H => ∃ w, (w ∈ ws ∧ cls = .ref (cl w) ∧ d = none) ∧ t4 a w D σ H)]) hs hf (by rw [hXN]; decide) (by rw [hXN]; rfl) hln tk hb
    (.cons (m g1 (by decide) (by decide)) (fun _ _ _ _ _ _ _ => pss_no) (.cons (m g2 (by decide) (by decide)) (fun _ _ _ _ _ _ _ => pss_no) (.cons (m g3 (by decide) (by decide)) (fun _ _ _ _ _ _ _ => pss_no)
      (.cons (m g4' (by decide) (by decide)) (fun a oe cls d pn hz hd => pss_ex fun w ⟨hw, e1, e2⟩ => (h4 a w hw oe pn (by rw [← e1, ← e2]; exact hz) hd).pe) .nil)))) fun e D S H σ d R xd q => ?_⟩
  unfold ghRef at q
  split at q
  · rename_i w e1 e2
    obtain ⟨hw, ec⟩ := nmOf_some e1
    rw [e2] at xd
    have xd : d = none := xd
    subst xd
    rw [← ec]
    refine ⟨false, k.no w hw "TooMany" (by decide), fun z => (nomatch z), fun _ => ⟨false, k.no w hw "Taken" (by decide), fun z => (nomatch z), fun _ => ⟨false, k.no w hw "NotThere" (by decide), fun z => (nomatch z), fun _ => ⟨true, k.yes w hw, fun _ a na => ⟨w, ⟨hw, rfl, rfl⟩, ?_⟩, fun z => (nomatch z)⟩⟩⟩⟩
    have hlen : σ.length = 10 := by
      have z := R.len
      rw [hXN] at z
      exact z
    have R1 : Rel ⟨R0, S0, H0, E⟩ S H (σ.set 6 (some (.ref a))) ⟨[.un, .un, .un, .un, .un, .un, .rw (.ref a), .un, .un, .un], e.γ⟩ := by
      have z := R.store (i := 6) (v := .ref a) (val := .rw (.ref a)) rfl rfl (by rw [List.length_replicate, hXN]; decide)
      rw [hXN] at z
      exact z
    refine (h4 a w hw { cls := .ref (cl w), data := .fields #[.none, .none, .none, .none, .none, .none] } [] ⟨rfl, rfl, fun vs e => by cases e; rfl⟩ ⟨_, rfl⟩).sd S H _ _ _ R1 ?_
    rw [g4_ev]
    intro S' H' σ' sm R2
    have l2 : σ'.length = 10 := R2.len
    refine q S' H' (σ'.set 6 none) sm (R2.weakS (by rw [List.length_set, l2]; rfl) rfl fun i s es => ?_)
    by_cases z : i = 6
    · subst z
      have z : some Sl.un = some s := es
      cases z
      exact .inl rfl
    · by_cases z2 : i = 7
      · subst z2
        have z : some Sl.un = some s := es
        cases z
        exact .inl rfl
      · refine .inr ⟨?_, List.getElem?_set_ne (Ne.symm z)⟩
        match i, z, z2, es with
        | 0, _, _, es => exact es
        | 1, _, _, es => exact es
        | 2, _, _, es => exact es
        | 3, _, _, es => exact es
        | 4, _, _, es => exact es
        | 5, _, _, es => exact es
        | 6, z, _, _ => exact absurd rfl z
        | 7, _, z, _ => exact absurd rfl z
        | 8, _, _, es => exact es
        | 9, _, _, es => exact es
        | n + 10, _, _, es => exact es
  · exact q.elim
end
/-! ### a def whose first argument is called -/
def spV (P : Program) (w : World) (K : PySem.W.Frag) (mg : Str → Option Value) (base : Heap) (kk : Nat) (G : PFn → PFn) : Sp := fun vs H Q E => ∃ f nd F, CV P w K mg base kk f nd (spP F) ∧ nd H ∧ spG R0 [.ref f] (fun _ ds => G F ds) vs H Q E
structure CalV (P : Program) (w : World) (K : PySem.W.Frag) (mg : Str → Option Value) (base : Heap) (x : Str) (k kk : Nat) (G : PFn → PFn) : Prop where
  ex : ∃ (f : Addr) (fd : FuncData) (ps : List Str), FnOk P w K mg base (L2N.CX P w) k f fd ps (spV P w K mg base kk G) ∧ mg x = some (.ref f) ∧ PySem.W.keepIn K (.ref f) = true ∧ Binds K fd ps []
section
variable {P : Program} {w : World} {K : PySem.W.Frag} {mg : Str → Option Value} {base : Heap}
theorem CalV.of {x : Str} {k kk : Nat} {G : PFn → PFn} {f : Addr} {fd : FuncData} {ps : List Str} (h : FnOk P w K mg base (L2N.CX P w) (k + 1) f fd ps (spV P w K mg base kk G)) (gm : mg x = some (.ref f)) (kp : PySem.W.keepIn K (.ref f) = true) (b : Binds K fd ps []) : CalV P w K mg base x (k + 1) kk G := ⟨f, fd, ps, h, gm, kp, b⟩
theorem fn_V {x qual : Str} {st : Stmt} {fa : Addr} {fd : FuncData} {N ps : List Str} {k kk : Nat} (Fu : Fun K x qual st fa fd) (Sc : FnScope N ps (defScope st)) {G : PFn → PFn} (g : Addr → PFn → DenS R0)
    (hlen : ∀ F ds r, G F ds = some r → ds.length + 1 = ps.length)
    (hbody : ∀ (f : Addr) (nd : Hp → Prop) (F : PFn), CV P w K mg base kk f nd (spP F) → ∀ (cdv : Value) (A : Around) (outer : List Env) (s : Shared) (S H : Hp) (E : XK), nd H → Room k (A.deeper (envOfC qual (defScope st) s.heap.objs.size fa cdv)) →
      ∃ t, DSs ⟨R0, S, H, E⟩ (cxOf (L2N.CX P w) P w K mg base N qual (defScope st) fa cdv A outer s H E) (defBody st) t (g f F))
    (heq : ∀ f F ds r, G F ds = some r → Gd (g f F (entry N.length [.ref f] ds ())) r) : FnOk P w K mg base (L2N.CX P w) (k + 1) fa fd ps (spV P w K mg base kk G) := by
  refine okN Fu Sc (fun vs H Q E h => ?_) (fun cdv A outer s H vs Q E hr h => ?_)
  · obtain ⟨f, nd, F, _, _, ws, S, γ, ds, r, e0, _, _, _, ha, e, _⟩ := h
    rw [e0, ← hlen F ds r e, List.length_append, Paired.length ha]
    exact Nat.add_comm _ _
  · obtain ⟨f, nd, F, cv, hn, ws, S, γ, ds, r, e0, hS, hM, hok, ha, e, ret⟩ := h
    subst e0
    obtain ⟨t, D⟩ := hbody f nd F cv cdv A outer s S H E hn hr
    have hl : ([V.ref f] ++ ws : List V).length ≤ N.length := by
      rw [List.length_append, Paired.length ha, List.length_singleton, Nat.add_comm, hlen F ds r e]
      have : (N.take ps.length).length = ps.length := by rw [Sc.pre]
      rw [List.length_take] at this
      omega
    exact ⟨t, D.pe, run_body D hS hM hok ha hl (heq f F ds r e) ret⟩
end
/-- _law_refused -/
def refG (cl : Str → Addr) (ws : List Str) (F : PFn) : PFn := fun ds => if ds.length = 4 then (match F ds with
  | some (.ok val _) => if val.out = true then some (.ok (.fr []) ()) else none
  | some (.err C f _) => (match nmOf cl ws C, f with
    | some w, none => some (.ok (.fr (kinL w)) ())
    | _, _ => none)
  | none => none) else none
def g_ref (cl : Str → Addr) (ws : List Str) (f : Addr) (F : PFn) : DenS R0 := dThen (dSet 5 (dLst dNil)) (dThen (dTry (dExpr (dCallV 0 f F (dCons (dBor 1) (dCons (dBor 2) (dCons (dBor 3) (dCons (dBor 4) dNil)))))) (ghRef cl ws)) (dRet (dTake 5)))
theorem bor_ar {R : Rsc} {τ : Tau R} {i : Nat} {d : PyData} (h : τ.sl[i]? = some (.ar d)) : ∃ v : Val, (dBor i : Den R) τ = .ok (v, τ) ∧ v.data = some d := by
  unfold dBor
  rw [h]
  cases d <;> exact ⟨_, rfl, rfl⟩
theorem hl_ref {cl : Str → Addr} {ws : List Str} (F : PFn) (ds : List PyData) (r : Res Unit) (h : refG cl ws F ds = some r) : ds.length + 1 = 5 := by
  rw [(ite_some h).1]
theorem he_ref {cl : Str → Addr} {ws : List Str} (f : Addr) (F : PFn) (ds : List PyData) (r : Res Unit) (h : refG cl ws F ds = some r) : Gd (g_ref cl ws f F (entry 10 [.ref f] ds ())) r := by
  obtain ⟨hl, h⟩ := ite_some h
  match ds, hl with
  | [a, b, c, d], _ =>
    obtain ⟨va, e1, d1⟩ := bor_ar (R := R0) (τ := ⟨[.rw (.ref f), .ar a, .ar b, .ar c, .ar d, .ow [], .un, .un, .un, .un], ()⟩) (i := 1) (d := a) rfl
    obtain ⟨vb, e2, d2⟩ := bor_ar (R := R0) (τ := ⟨[.rw (.ref f), .ar a, .ar b, .ar c, .ar d, .ow [], .un, .un, .un, .un], ()⟩) (i := 2) (d := b) rfl
    obtain ⟨vc, e3, d3⟩ := bor_ar (R := R0) (τ := ⟨[.rw (.ref f), .ar a, .ar b, .ar c, .ar d, .ow [], .un, .un, .un, .un], ()⟩) (i := 3) (d := c) rfl
    obtain ⟨vd, e4, d4⟩ := bor_ar (R := R0) (τ := ⟨[.rw (.ref f), .ar a, .ar b, .ar c, .ar d, .ow [], .un, .un, .un, .un], ()⟩) (i := 4) (d := d) rfl
    have args : (dCons (dBor 1) (dCons (dBor 2) (dCons (dBor 3) (dCons (dBor 4) dNil))) : DenA R0) ⟨[.rw (.ref f), .ar a, .ar b, .ar c, .ar d, .ow [], .un, .un, .un, .un], ()⟩ = .ok ([va, vb, vc, vd], ⟨[.rw (.ref f), .ar a, .ar b, .ar c, .ar d, .ow [], .un, .un, .un, .un], ()⟩) := by
      simp only [dCons, dNil, e1, e2, e3, e4, Out.bind_ok]
    have al : allData [va, vb, vc, vd] = some [a, b, c, d] := by simp [allData, d1, d2, d3, d4]
    have ent : (entry 10 [.ref f] [a, b, c, d] () : Tau R0) = ⟨[.rw (.ref f), .ar a, .ar b, .ar c, .ar d, .un, .un, .un, .un, .un], ()⟩ := rfl
    have s5 : (dSet 5 (dLst dNil) : DenS R0) ⟨[.rw (.ref f), .ar a, .ar b, .ar c, .ar d, .un, .un, .un, .un, .un], ()⟩ = .ok (.nx ⟨[.rw (.ref f), .ar a, .ar b, .ar c, .ar d, .ow [], .un, .un, .un, .un], ()⟩) := by
      simp [dSet, dLst, dNil, allSh, Val.slot, Tau.put]
    have cal : (dCallV 0 f F (dCons (dBor 1) (dCons (dBor 2) (dCons (dBor 3) (dCons (dBor 4) dNil)))) : Den R0) ⟨[.rw (.ref f), .ar a, .ar b, .ar c, .ar d, .ow [], .un, .un, .un, .un], ()⟩ = outX F ([va, vb, vc, vd], ⟨[.rw (.ref f), .ar a, .ar b, .ar c, .ar d, .ow [], .un, .un, .un, .un], ()⟩) := by
      unfold dCallV
      show (if V.ref f = V.ref f then _ else _) = _
      rw [if_pos rfl]
      unfold dCallX
      rw [args]
      rfl
    rw [ent]
    unfold g_ref
    have th : ∀ (g h : DenS R0) (τ τ' : Tau R0), g τ = .ok (.nx τ') → dThen g h τ = h τ' := fun g h τ τ' e => by
      unfold dThen
      rw [e]
      rfl
    rw [th _ _ _ _ s5]
    have body : (dExpr (dCallV 0 f F (dCons (dBor 1) (dCons (dBor 2) (dCons (dBor 3) (dCons (dBor 4) dNil))))) : DenS R0) ⟨[.rw (.ref f), .ar a, .ar b, .ar c, .ar d, .ow [], .un, .un, .un, .un], ()⟩ = (outX F ([va, vb, vc, vd], ⟨[.rw (.ref f), .ar a, .ar b, .ar c, .ar d, .ow [], .un, .un, .un, .un], ()⟩)).bind fun p => .ok (.nx p.2) := by
      unfold dExpr
      rw [cal]
    have ox : outX (R := R0) F ([va, vb, vc, vd], ⟨[.rw (.ref f), .ar a, .ar b, .ar c, .ar d, .ow [], .un, .un, .un, .un], ()⟩) = (match F [a, b, c, d] with
      | some (.ok val _) => if val.out = true then .ok (val, ⟨[.rw (.ref f), .ar a, .ar b, .ar c, .ar d, .ow [], .un, .un, .un, .un], ()⟩) else .bad
      | some (.err C f' _) => .exc ⟨C, f', ()⟩
      | _ => .bad) := by
      unfold outX
      simp only [al]
      all_goals (split <;> simp_all)
    have take : ∀ (xs : List PyData) (s0 s1 s2 s3 s4 : Sl), (dRet (dTake 5) : DenS R0) ⟨[s0, s1, s2, s3, s4, .ow xs, .un, .un, .un, .un], ()⟩ = .ok (.rt (.fr xs) ⟨[s0, s1, s2, s3, s4, .un, .un, .un, .un, .un], ()⟩) := fun xs s0 s1 s2 s3 s4 => by
      simp [dRet, dTake, Tau.put]
    split at h
    · rename_i val u eF
      split at h
      · rename_i ho
        cases h
        have t1 : dTry (dExpr (dCallV 0 f F (dCons (dBor 1) (dCons (dBor 2) (dCons (dBor 3) (dCons (dBor 4) dNil)))))) (ghRef cl ws) ⟨[.rw (.ref f), .ar a, .ar b, .ar c, .ar d, .ow [], .un, .un, .un, .un], ()⟩ = .ok (.nx ⟨[.rw (.ref f), .ar a, .ar b, .ar c, .ar d, .ow [], .un, .un, .un, .un], ()⟩) := by
          unfold dTry
          rw [body, ox, eF]
          simp [ho]
        rw [th _ _ _ _ t1, take]
        exact .inl ⟨_, rfl, rfl⟩
      · cases h
    · rename_i C f' u eF
      cases en : nmOf cl ws C with
      | none =>
        rw [en] at h
        cases h
      | some w' =>
        rw [en] at h
        cases f' with
        | some _ => cases h
        | none =>
          cases h
          have t1 : dTry (dExpr (dCallV 0 f F (dCons (dBor 1) (dCons (dBor 2) (dCons (dBor 3) (dCons (dBor 4) dNil)))))) (ghRef cl ws) ⟨[.rw (.ref f), .ar a, .ar b, .ar c, .ar d, .ow [], .un, .un, .un, .un], ()⟩ = .ok (.nx ⟨[.un, .un, .un, .un, .un, .ow (kinL w'), .un, .un, .un, .un], ()⟩) := by
            unfold dTry
            rw [body, ox, eF]
            simp [ghRef, en]
          rw [th _ _ _ _ t1, take]
          exact .inl ⟨_, rfl, rfl⟩
    · cases h
end Kn
set_option Elab.async false
set_option linter.all false
set_option maxRecDepth 100000
set_option maxHeartbeats 4000000
namespace Kn
open PySem PySem.Spec L2
open PyProof.Rows hiding St
open LamX (CodeO TabB)
open NdefX (NF)
/-! ### tables of code objects, beside what is ours -/
abbrev Tabl := Addr × Str
def TabO (S H : Hp) (p : Tabl) : Prop := ∃ ps : Array Value, H p.1 = some (.tbl ps) ∧ TriplesOk ps.toList ∧ ∀ (pos : Pos) (cv : Value), codeAmong pos ps.toList = some cv → ∃ c, cv = .ref c ∧ S c = some (CodeO c p.2)
theorem TabO.mono {S H S' H' : Hp} {p : Tabl} (h : TabO S H p) (s : Same S S') (k : H' p.1 = H p.1) : TabO S' H' p := by
  obtain ⟨ps, h1, h2, h3⟩ := h
  refine ⟨ps, k.trans h1, h2, fun pos cv e => ?_⟩
  obtain ⟨c, e1, e2⟩ := h3 pos cv e
  exact ⟨c, e1, s _ _ e2⟩
abbrev tabR (T : List Tabl) (R : Rsc) : Rsc where
  Γ := R.Γ
  M := fun b => R.M b ∨ b ∈ T.map Prod.fst
  ok := fun γ S H => R.ok γ S H ∧ (∀ p ∈ T, TabO S H p) ∧ ∀ b, R.M b → b ∉ T.map Prod.fst
  stab := fun γ S H S' H' hs hm h => ⟨R.stab _ _ _ _ _ hs (fun b m => hm b (.inl m)) h.1, fun p hp => (h.2.1 p hp).mono hs (hm p.1 (.inr (List.mem_map.mpr ⟨p, hp, rfl⟩))), h.2.2⟩
  mem := fun γ S H b h m => by
    rcases m with m | m
    · exact R.mem _ _ _ _ h.1 m
    · obtain ⟨p, hp, rfl⟩ := List.mem_map.mp m
      obtain ⟨ps, e, _⟩ := h.2.1 p hp
      rw [e]
      exact fun z => nomatch z
section
variable {T : List Tabl} {R : Rsc} {S0 H0 S H : Hp} {E : XK} {σ : L2.St} {τ : Tau (tabR T R)}
/-- a table is written -/
theorem Rel.tab (r : Rel ⟨tabR T R, S0, H0, E⟩ S H σ τ) {P : Addr} {q : Str} {ps' : Array Value} (hm : (P, q) ∈ T) (hu : ∀ p ∈ T, p.1 = P → p.2 = q) (h : TabO S (upd H P (.tbl ps')) (P, q)) : Rel ⟨tabR T R, S0, H0, E⟩ S (upd H P (.tbl ps')) σ τ := by
  have mP : (tabR T R).M P := .inr (List.mem_map.mpr ⟨_, hm, rfl⟩)
  have off : ∀ b, ¬ (tabR T R).M b → b ≠ P := fun b n z => n (z ▸ mP)
  refine ⟨fun b u e => ?_, fun b o m e => ?_, r.s0, r.new, r.mS, r.len, fun i s e => ?_, r.dis, ⟨R.stab _ _ _ _ _ (Same.refl _) (fun b m => upd_ne fun z => r.res.2.2 b m (z ▸ List.mem_map.mpr ⟨_, hm, rfl⟩)) r.res.1, fun p hp => ?_, r.res.2.2⟩, r.m0⟩
  · have z : b ≠ P := fun z => by
      have z2 := r.mS P mP
      rw [← z, e] at z2
      cases z2
    rw [upd_ne z]
    exact r.sub b u e
  · rw [upd_ne (off b m)]
    exact r.ent b o m e
  · have k := r.sl i s e
    have nM : ∀ {p : Addr}, s.own = true → σ[i]? = some (some (.ref p)) → ¬ (tabR T R).M p := fun {p} o ep => by
      cases s with
      | ow ds =>
        obtain ⟨p', _, ep', _, _, _, h, _⟩ := k
        rw [ep] at ep'
        cases ep'
        exact h
      | od ds =>
        obtain ⟨p', _, ep', _, _, _, h, _⟩ := k
        rw [ep] at ep'
        cases ep'
        exact h
      | _ => cases o
    refine k.mono (Same.refl _) fun p o o1 ep hp => ⟨?_, fun z => z⟩
    rw [upd_ne (off p (nM o1 ep))]
    exact hp
  · by_cases z : p.1 = P
    · have e2 := hu p hp z
      obtain ⟨p1, p2⟩ := p
      simp only at z e2
      subst z
      subst e2
      exact h
    · exact (r.res.2.1 p hp).mono (Same.refl _) (upd_ne z)
theorem Gro.tab {sl : List Sl} {P : Addr} {o : HO} (m : (tabR T R).M P) : Gro ⟨tabR T R, S0, H0, E⟩ σ S H sl S (upd H P o) sl :=
  ⟨Same.refl _, fun b u n e => by rw [upd_ne fun z => n (by rw [z]; exact m)]; exact e, fun _ _ e => .inl e, fun _ e => e⟩
end
/-! ### a call whose first argument is a lambda -/
abbrev nfL (q : Str) (params : Arguments) (scope : Scope) (c : Addr) : NF := ⟨"<lambda>", q, params, [], scope, [], c⟩
def tLamC (P : Addr) (q : Str) (params : Arguments) (body : Expr) (scope : Scope) (lpos : Pos) (sp : Sp) (E : XK) (t : TA) : TE := fun σ H Q => ∃ ps : Array Value, H P = some (.tbl ps) ∧ TriplesOk ps.toList ∧ (∀ cv, codeAmong lpos ps.toList = some cv → ∃ c, cv = .ref c ∧ H c = some (CodeO c q)) ∧
  ∀ (c f : Addr) (H1 : Hp), ((codeAmong lpos ps.toList = some (.ref c) ∧ H f = none ∧ H1 = upd H f (LamO f (nfL q params scope c) body)) ∨
    (codeAmong lpos ps.toList = none ∧ H c = none ∧ H f = none ∧ f ≠ c ∧ H1 = upd (upd (upd H P (.tbl (ps ++ #[rawInt lpos.line, rawInt lpos.col, .ref c]))) c (CodeO c q)) f (LamO f (nfL q params scope c) body))) → t σ H1 fun vs H2 => sp (.ref f :: vs) H2 Q E
theorem cloFrom_nil {cells : List (Str × Addr)} : ∀ {names : List (Str × NameKind)}, (∀ y ∈ names, y.2 ≠ .free) → cloFrom cells names [] = []
  | [], _ => rfl
  | (n, k) :: r, h => by
    have hk : (k == NameKind.free) = false := by
      have z := h (n, k) List.mem_cons_self
      cases k <;> first | rfl | exact absurd rfl z
    unfold cloFrom
    rw [hk]
    exact cloFrom_nil fun y hy => h y (List.mem_cons_of_mem _ hy)
section
variable {X : Cx} {k : Nat} {g c P : Addr} {fd : FuncData} {ps : List Str} {sp : Sp} {E : XK} {t : TA} {x q : Str} {es : List Expr} {p pos lpos : Pos} {params : Arguments} {body : Expr} {scope : Scope}
theorem pe_lamV (F : FnOk X.prog X.w X.K X.mg X.base (L2N.CX X.prog X.w) k g fd ps sp) (hr : Room k X.A) (hg : Gl X x) (hm : X.mg x = some (.ref g)) (hk : PySem.W.keepIn X.K (.ref g) = true) (hb : Binds X.K fd ps []) (hx : Passes (L2N.CX X.prog X.w) X E)
    (TB : TabB X.base X.mg c P) (hcode : X.env.code = .ref c) (hq : X.env.qual ++ "<lambda>" = q) (hfree : ∀ y ∈ scope.names, y.2 ≠ .free) (hdef : defaultsOf params X.env = ([], [])) (ha : PA X es t)
    (hdb : (x == ("__debug__" : Str)) = false := by decide)
    (he : starEach (.Lambda params body scope lpos :: es) X.env = (false, eval (.Lambda params body scope lpos) X.env) :: starEach es X.env := by rfl) (hpl : (backTo pos (starEach es X.env)).any (·.1) = false := by rfl) :
    PE X (.Call (.Name x p) (.Lambda params body scope lpos :: es) [] pos) (tLamC P q params body scope lpos sp E t) := by
  refine ⟨fun pins s σ H Q I ⟨tb, hP, ht, hits, h⟩ => ?_⟩
  refine wpAny_Call_Name_kw (ld_glob I hg hm ?_ hdb)
  refine PySem.W.callWith_K (h₀ := X.base) I.ok.mod.kin hk ?_ he hpl
  rw [he]
  show wpAny _ _ (spliced ((false, eval (.Lambda params body scope lpos) X.env) :: backTo pos (starEach es X.env))) _ _ s
  have rest : ∀ (f : Addr) (H1 : Hp) (s1 : Shared), Inv X pins σ H1 s1 → (t σ H1 fun vs H2 => sp (.ref f :: vs) H2 Q E) → wpAny (model X.prog X.w) X.A (spliced (backTo pos (starEach es X.env))) (fun us s2 => X.K.In s2.heap ∧ wpAny (model X.prog X.w) X.A (call (.ref g) ([] ++ (Value.ref f :: us))) (EP X pins σ Q) X.xe s2) X.xe s1 := fun f H1 s1 I1 q1 =>
    thn (ha.run pos pins s1 σ H1 _ I1 q1) fun us s2 ⟨vs, H2, I2, r, q2⟩ => ⟨I2.kIn, run_fn (us := .ref f :: us) (vs := .ref f :: vs) (dvs := []) (ds := []) F hr hb .nil hx I2 (.cons rfl r) (by rw [List.append_nil]; exact q2)⟩
  have nofree : ∀ y ∈ scope.names, y.2 = .free → ∃ c, X.env.cells.lookup y.1 = some c := fun y hy e => absurd e (hfree y hy)
  have clo : cloFrom X.env.cells scope.names [] = [] := cloFrom_nil hfree
  refine Calls.spliced_cons (PySem.W.kla_eval hdef ?_)
  have bP : s.heap.BuiltinsAt X.mg P := TB.bm.keeps I.bk
  have hP' : s.heap.get? P = some { cls := .none, data := .fields tb } := I.hok P _ hP
  have cok : closureFor scope X.env = pure [] := by
    rw [closure_ok nofree, clo]
  cases hc : codeAmong lpos tb.toList with
  | none =>
    refine PySem.W.kla_makeFunction (mg := X.mg) (c := c) (P := P) (ps := tb) cok I.ok.glob (I.mod.glob.keeps I.bk) hcode (TB.code.keeps I.bk) hP' ht hc TB.gP bP fun c' ctv h' tk hx' hge hlt hrec htb => ?_
    obtain ⟨c2, oc, vs, tt, e2, hoc, hd, hv⟩ := hrec
    cases e2
    have nC : H c' = none := I.hok.fresh hge
    have I1 := LamX.inv_table (t' := tk) (more := #[rawInt lpos.line, rawInt lpos.col, .ref c']) (h' := h') I hP (fun b o hb e => hx' b o hb e) htb hge ⟨oc, vs, tt, hoc, hd, hv⟩
    rw [hq] at I1 ⊢
    have at_ : (h'.push (PySem.W.kla_obj "<lambda>" q params body scope [] ((X.mg "__name__").getD .none) c' ctv)).get? h'.objs.size = some (PySem.W.kla_obj "<lambda>" q params body scope [] ((X.mg "__name__").getD .none) c' ctv) := Heap.get?_push_size _ rfl
    have I2 := I1.laid (a := h'.objs.size) (o := LamO h'.objs.size (nfL q params scope c') body) (t' := tk) (h' := h'.push (PySem.W.kla_obj "<lambda>" q params body scope [] ((X.mg "__name__").getD .none) c' ctv)) (fun b u e => Heap.get?_push_of_some _ e) (Nat.le_refl _) ⟨⟨_, _, _, _, at_⟩, ⟨_, at_⟩, fun h1 h2 ⟨od, sl, pm, ct, z⟩ st => ⟨od, sl, pm, ct, st _ z⟩⟩
    exact rest _ _ _ I2 (h c' h'.objs.size _ (.inr ⟨hc, nC, I.hok.fresh (Nat.le_trans hge (Nat.le_of_lt hlt)), Nat.ne_of_gt hlt, rfl⟩))
  | some cv =>
    obtain ⟨c', e, hco⟩ := hits cv hc
    subst e
    refine PySem.W.kla_makeFunctionHit (mg := X.mg) (c := c) (P := P) (ps := tb) cok I.ok.glob (I.mod.glob.keeps I.bk) hcode (TB.code.keeps I.bk) hP' ht hc bP fun ctv h' tk hx' hsz => ?_
    rw [hq]
    have I1 : Inv X pins σ H { s with heap := h', toks := tk } := I.kept hx'
    have at_ : (h'.push (PySem.W.kla_obj "<lambda>" q params body scope [] ((X.mg "__name__").getD .none) c' ctv)).get? h'.objs.size = some (PySem.W.kla_obj "<lambda>" q params body scope [] ((X.mg "__name__").getD .none) c' ctv) := Heap.get?_push_size _ rfl
    have I2 := I1.laid (a := h'.objs.size) (o := LamO h'.objs.size (nfL q params scope c') body) (t' := tk) (h' := h'.push (PySem.W.kla_obj "<lambda>" q params body scope [] ((X.mg "__name__").getD .none) c' ctv)) (fun b u e => Heap.get?_push_of_some _ e) (Nat.le_refl _) ⟨⟨_, _, _, _, at_⟩, ⟨_, at_⟩, fun h1 h2 ⟨od, sl, pm, ct, z⟩ st => ⟨od, sl, pm, ct, st _ z⟩⟩
    exact rest _ _ _ I2 (h c' h'.objs.size _ (.inl ⟨hc, I.hok.fresh hsz, rfl⟩))
end
end Kn
set_option Elab.async false
set_option linter.all false
set_option maxRecDepth 100000
set_option maxHeartbeats 4000000
namespace Kn
open PySem PySem.Spec L2
open PyProof.Rows hiding St
open LamX (CodeO TabB)
open NdefX (NF)
theorem lay_frz {B : Bs} {S H : Hp} {σ : L2.St} {τ : Tau B.R} (R : Rel B S H σ τ) {p : Addr} {o : HO} (hp : H p = none) : Gro B σ S H τ.sl (upd S p o) (upd H p o) τ.sl ∧ Rel B (upd S p o) (upd H p o) σ τ := by
  have q := R.hnone hp
  have R1 := R.lay (o := o) hp
  refine ⟨⟨fun b u e => ?_, (Gro.lay (sl := τ.sl) R hp).h, fun b u e => ?_, fun _ e => e⟩, R1.freeze upd_same q.1 q.2.2.1 q.2.1 q.2.2.2⟩
  · rw [upd_ne (ne_of_none e q.1)]
    exact e
  · by_cases z : b = p
    · subst z
      exact .inr ⟨q.2.2.1, .inl hp⟩
    · rw [upd_ne z] at e
      exact .inl e
theorem upd_comm {H : Hp} {a b : Addr} {o u : HO} (n : a ≠ b) : upd (upd H a o) b u = upd (upd H b u) a o := by
  funext x
  by_cases h1 : x = a
  · subst h1
    rw [upd_ne n, upd_same, upd_same]
  · by_cases h2 : x = b
    · subst h2
      rw [upd_same, upd_ne h1, upd_same]
    · rw [upd_ne h2, upd_ne h1, upd_ne h1, upd_ne h2]
section
variable {X : Cx} {T : List Tabl} {R : Rsc} {S0 H0 : Hp} {E : XK} {k kk : Nat} {c P : Addr} {t : TA} {ga : DenA (tabR T R)} {x q : Str} {es : List Expr} {p pos lpos : Pos} {params : Arguments} {body : Expr} {scope : Scope} {G : PFn → PFn} {Fl : PFn}
theorem de_lamV (cal : CalV X.prog X.w X.K X.mg X.base x k kk G) (hr : Room k X.A) (hg : Gl X x) (TB : TabB X.base X.mg c P) (hcode : X.env.code = .ref c) (hq : X.env.qual ++ "<lambda>" = q) (hT : (P, q) ∈ T) (hu : ∀ p ∈ T, p.1 = P → p.2 = q)
    (hfree : ∀ y ∈ scope.names, y.2 ≠ .free) (hdef : defaultsOf params X.env = ([], [])) (cv : ∀ f c', CV X.prog X.w X.K X.mg X.base kk f (ndLam f (nfL q params scope c') body) (spP Fl)) (ha : DA ⟨tabR T R, S0, H0, E⟩ X es t ga)
    (hdb : (x == ("__debug__" : Str)) = false := by decide)
    (he : starEach (.Lambda params body scope lpos :: es) X.env = (false, eval (.Lambda params body scope lpos) X.env) :: starEach es X.env := by rfl) (hpl : (backTo pos (starEach es X.env)).any (·.1) = false := by rfl) :
    DE ⟨tabR T R, S0, H0, E⟩ X (.Call (.Name x p) (.Lambda params body scope lpos :: es) [] pos) (tLamC P q params body scope lpos (spV X.prog X.w X.K X.mg X.base kk G) E0 t) (dCall (G Fl) ga) := by
  obtain ⟨g, fd, ps, F, gm, kp, bnd⟩ := cal.ex
  refine ⟨pe_lamV F hr hg gm kp bnd passN TB hcode hq hfree hdef ha.pe hdb he hpl, fun S H σ τ Q Rr h0 => ?_⟩
  obtain ⟨tb, h1, h2, h3⟩ := Rr.res.2.1 (P, q) hT
  have h1 : H P = some (.tbl tb) := h1
  refine ⟨tb, h1, h2, fun cv e => let ⟨c, e1, e2⟩ := h3 lpos cv e; ⟨c, e1, Rr.sub _ _ e2⟩, fun c f H1 hH => ?_⟩
  have key : ∃ S1, Gro ⟨tabR T R, S0, H0, E⟩ σ S H τ.sl S1 H1 τ.sl ∧ Rel ⟨tabR T R, S0, H0, E⟩ S1 H1 σ τ ∧ S1 f = some (LamO f (nfL q params scope c) body) ∧ S1 c = some (CodeO c q) := by
    rcases hH with ⟨hc, hf, rfl⟩ | ⟨hc, hc0, hf, nfc, rfl⟩
    · obtain ⟨c0, e1, e2⟩ := h3 lpos _ hc
      cases e1
      obtain ⟨G1, R1⟩ := lay_frz (o := LamO f (nfL q params scope c) body) Rr hf
      exact ⟨_, G1, R1, upd_same, G1.s _ _ e2⟩
    · have nPc : P ≠ c := ne_of_none h1 hc0
      have nPf : P ≠ f := ne_of_none h1 hf
      obtain ⟨G1, R1⟩ := lay_frz (o := CodeO c q) Rr hc0
      have tab : TabO (upd S c (CodeO c q)) (upd (upd H c (CodeO c q)) P (.tbl (tb ++ #[rawInt lpos.line, rawInt lpos.col, .ref c]))) (P, q) := by
        have eL : (tb ++ #[rawInt lpos.line, rawInt lpos.col, .ref c]).toList = tb.toList ++ [rawInt lpos.line, rawInt lpos.col, .ref c] := by simp
        refine ⟨_, upd_same, by rw [eL]; exact PySem.TriplesOk_snoc _ _ _ _ h2, fun p' cv hcv => ?_⟩
        rw [eL] at hcv
        rcases LamX.among_app _ h2 hcv with z | z
        · obtain ⟨c1, e1, e2⟩ := h3 p' cv z
          exact ⟨c1, e1, G1.s _ _ e2⟩
        · exact ⟨c, z, upd_same⟩
      have R2 := R1.tab hT hu tab
      have G2 : Gro ⟨tabR T R, S0, H0, E⟩ σ _ _ τ.sl _ _ τ.sl := Gro.tab (S0 := S0) (H0 := H0) (E := E) (σ := σ) (S := upd S c (CodeO c q)) (H := upd H c (CodeO c q)) (sl := τ.sl) (P := P) (o := .tbl (tb ++ #[rawInt lpos.line, rawInt lpos.col, .ref c])) (T := T) (R := R) (.inr (List.mem_map.mpr ⟨_, hT, rfl⟩))
      have ec := upd_comm (H := H) (o := .tbl (tb ++ #[rawInt lpos.line, rawInt lpos.col, .ref c])) (u := CodeO c q) nPc
      have hf3 : upd (upd H c (CodeO c q)) P (.tbl (tb ++ #[rawInt lpos.line, rawInt lpos.col, .ref c])) f = none := by
        rw [upd_ne (Ne.symm nPf), upd_ne nfc]
        exact hf
      obtain ⟨G3, R3⟩ := lay_frz (o := LamO f (nfL q params scope c) body) R2 hf3
      rw [ec]
      refine ⟨_, (G1.trans G2).trans G3, R3, upd_same, ?_⟩
      rw [upd_ne (Ne.symm nfc), upd_same]
  obtain ⟨S1, G1, R1, sf, sc⟩ := key
  have h0 : Sat ⟨tabR T R, S0, H0, E⟩ (okV _ σ) S H τ (dCall (G Fl) ga τ) Q := h0
  unfold dCall at h0
  refine ha.sd S1 H1 σ τ _ R1 (Sat.step (f := fun p => match allData p.1 with
    | some ds => match G Fl ds with
      | some (.ok val _) => if val.out = true then .ok (val, p.2) else .bad
      | _ => .bad
    | none => .bad) (Sat.shift G1 h0) fun y τ1 vs S2 H2 eg G2 R2 o2 f2 h => ?_)
  cases e : allData y with
  | none => simp only [e] at h; exact h.elim
  | some ds =>
    simp only [e] at h
    have ka := args_ok (RR := R0) (fun _ z => z.elim) R2 o2 e
    cases ef : G Fl ds with
    | none => simp only [ef] at h; exact h.elim
    | some r =>
      simp only [ef] at h
      cases r with
      | ok val u =>
        refine ⟨f, _, Fl, cv f c, ⟨R2.sub _ _ (G2.s _ _ sf), R2.sub _ _ (G2.s _ _ sc)⟩, vs, S2, (), ds, .ok val u, rfl, R2.sub, fun _ z => z.elim, trivial, ka, ef, ?_⟩
        simp only at h
        by_cases ho : val.out = true
        · rw [if_pos ho] at h
          intro v S' H' a kx
          have a' := a.pure R2
          obtain ⟨kv, kf⟩ := kx.v R2 (out_bo ho).1 (out_bo ho).2
          exact h v S' H' (Gro.grown R2 a') (R2.grown a') kv kf
        · rw [if_neg ho] at h
          exact h.elim
      | err C f u => exact h.elim
end
/-! ### a callee that is handed what is ours, the tables aside -/
section
variable {ι : Type} {Rs : ι → Rsc} {ad : ι → Addr} {X : Cx} {T : List Tabl} {i : ι} {S0 H0 : Hp} {E1 : XK} {e : Expr} {es : List Expr} {t : TA} {ga : DenA (tabR T (Rs i))} {pos p : Pos} {k : Nat}
def dCallT (T : List Tabl) (Rs : ι → Rsc) (ad : ι → Addr) (i : ι) (F : RFn Rs) (g : DenA (tabR T (Rs i))) : Den (tabR T (Rs i)) := fun τ => (g τ).bind fun p => match p.1 with
  | .rw v :: rest => if v = .ref (ad i) then match allData rest with
    | some ds => match F i p.2.γ ds with
      | some (.ok val γ') => if val.out = true then .ok (val, ⟨p.2.sl, γ'⟩) else .bad
      | _ => .bad
    | none => .bad
    else .bad
  | _ => .bad
theorem After.tabs {S H S' H' : Hp} {R : Rsc} {γ γ' : R.Γ} (h0 : (tabR T R).ok γ S H) (a : After R S H γ' S' H') : After (tabR T R) S H γ' S' H' := by
  have nT : ∀ p ∈ T, ¬ R.M p.1 := fun p hp m => h0.2.2 p.1 m (List.mem_map.mpr ⟨p, hp, rfl⟩)
  refine ⟨a.s, fun b o n e => a.h b o (fun m => n (.inl m)) e, fun b o e => (a.n b o e).imp id fun z => ⟨fun m => ?_, z.2⟩, a.sub, a.ok, fun p hp => ?_, h0.2.2⟩
  · rcases m with m | m
    · exact z.1 m
    · obtain ⟨p, hp, rfl⟩ := List.mem_map.mp m
      obtain ⟨tb, e, _⟩ := h0.2.1 p hp
      rw [e] at z
      cases z.2
  · obtain ⟨tb, e, _⟩ := id (h0.2.1 p hp)
    exact (h0.2.1 p hp).mono a.s ((a.h _ _ (nT p hp) e).trans e.symm)
theorem snd_callT {F : RFn Rs} {E : XK} (ha : SndA ⟨tabR T (Rs i), S0, H0, E1⟩ t ga) : SndE ⟨tabR T (Rs i), S0, H0, E1⟩ (tCall (spR Rs ad F) [] E t) (dCallT T Rs ad i F ga) := by
  refine fun S H σ τ Q R q => ha S H σ τ _ R (Sat.step (f := fun p => match p.1 with
    | .rw v :: rest => if v = .ref (ad i) then match allData rest with
      | some ds => match F i p.2.γ ds with
        | some (.ok val γ') => if val.out = true then .ok (val, ⟨p.2.sl, γ'⟩) else .bad
        | _ => .bad
      | none => .bad
      else .bad
    | _ => .bad) q fun x τ1 vs S1 H1 _ G1 R1 o1 _ h1 => ?_)
  split at h1
  · rename_i v rest e0
    simp only at e0
    subst e0
    have o1 : Paired (fun v val => VOk ⟨tabR T (Rs i), S0, H0, E1⟩ S1 H1 σ τ1.sl v val) vs (.rw v :: rest) := o1
    cases o1 with
    | cons k0 kr =>
      rename_i v' ws _fr
      have k0 : v' = v := k0
      subst k0
      by_cases hv : v' = .ref (ad i)
      · rw [if_pos hv] at h1
        subst hv
        cases e : allData rest with
        | none => simp only [e] at h1; exact h1.elim
        | some ds =>
          simp only [e] at h1
          have ka := args_ok (B := ⟨tabR T (Rs i), S0, H0, E1⟩) (RR := Rs i) (fun _ z => Or.inl z) R1 kr e
          cases ef : F i τ1.γ ds with
          | none => simp only [ef] at h1; exact h1.elim
          | some r =>
            simp only [ef] at h1
            cases r with
            | ok val γ' =>
              refine ⟨i, ws, S1, τ1.γ, ds, .ok val γ', List.append_nil _, R1.sub, fun b m => R1.mS b (.inl m), R1.res.1, ka, ef, ?_⟩
              simp only at h1
              by_cases ho : val.out = true
              · rw [if_pos ho] at h1
                intro v S' H' a k
                obtain ⟨kv, kf⟩ := k.v R1 (out_bo ho).1 (out_bo ho).2
                have a' := a.tabs R1.res
                exact h1 v S' H' (Gro.grown R1 a') (R1.grown a') kv kf
              · rw [if_neg ho] at h1
                exact h1.elim
            | err C f u => exact h1.elim
      · rw [if_neg hv] at h1
        exact h1.elim
  · exact h1.elim
theorem de_calT {x : Str} {F : RFn Rs} (c : CalR Rs ad X.prog X.w X.K X.mg X.base x k F) (hr : Room k X.A) (hg : Gl X x) (ha : DA ⟨tabR T (Rs i), S0, H0, E1⟩ X (e :: es) t ga)
    (hdb : (x == ("__debug__" : Str)) = false := by decide) (he : starEach (e :: es) X.env = (false, eval e X.env) :: starEach es X.env := by rfl) (hpl : (backTo pos (starEach es X.env)).any (·.1) = false := by rfl) :
    DE ⟨tabR T (Rs i), S0, H0, E1⟩ X (.Call (.Name x p) (e :: es) [] pos) (tCall (spR Rs ad F) [] E0 t) (dCallT T Rs ad i F ga) := by
  obtain ⟨f, fd, ps, h, gm, kp, b⟩ := c.ex
  exact ⟨pe_call h hr hg gm kp b .nil passN ha.pe hdb he hpl, snd_callT ha.sd⟩
end
end Kn
set_option Elab.async false
set_option linter.all false
set_option maxRecDepth 100000
set_option maxHeartbeats 4000000
namespace Kn
open PySem PySem.Spec L2
open PyProof.Rows hiding St
/-! ### the law's loop over its bags, tables beside -/
section
variable {K : PySem.W.Frag}
def dBagsT {K : PySem.W.Frag} (T : List Tabl) (p : Addr × List Int) (n : Nat) : DenS (tabR T (scrR K p)) := fun τ => match τ.sl[0]? with
  | some (Sl.rw v) => if v = .ref p.1 ∧ τ.sl.length = n then .ok (.nx ⟨List.replicate n .un, ()⟩) else .bad
  | _ => .bad
def bagSlotsT (T : List Tabl) (n ib : Nat) (ab : Addr) (d : List Int) : Tau (tabR T (bagR ab)) := ⟨(List.replicate n Sl.un).set ib (.rw (.ref ab)), (d, 0)⟩
theorem ds_bagsT {T : List Tabl} {X : Cx} {p : Addr × List Int} {S0 H0 : Hp} {E : XK} {k ib : Nat} {x bg sc : Str} {lim : Int} {fp cp bp ap lp : Pos} {j : Nat} {body : List Stmt} {tb : TS} (n : Nat) (gb : ∀ ab, DenS (tabR T (bagR ab)))
    (hl : p.2.length ≤ 63) (l1 : 1 ≤ lim) (l2 : lim ≤ 63) (hp : PassesOwn (model X.prog X.w) X.A X.env X.xe) (hc : X.calm = true) (c : CalBags X.prog X.w X.K X.mg X.base x k) (hr : Room k X.A) (hg : Gl X x) (hNd : X.N.Nodup) (hN : X.N.length = n)
    (hi : X.N[ib]? = some bg) (hx : Loc X.env.scope bg) (hf : X.fn bg = true ∨ X.env.scope.names.lookup bg = some .local) (h0 : X.N[0]? = some sc) (hv : Vis X.env.scope sc)
    (hb : ∀ (ab : Addr) (S H : Hp), DSs ⟨tabR T (bagR ab), S, H, E⟩ X body tb (gb ab))
    (good : ∀ (ab : Addr) (d : List Int), isDraw d → ∃ τ', gb ab (bagSlotsT T n ib ab d) = .ok (.nx τ') ∧ τ'.sl.length = n)
    (hK : X.K = K := by rfl)
    (hdb : (x == ("__debug__" : Str)) = false := by decide) (he : starEach [.Name sc ap, .Constant (.int lim) j lp] X.env = (false, eval (.Name sc ap) X.env) :: starEach [.Constant (.int lim) j lp] X.env := by rfl) (he2 : starEach [.Constant (.int lim) j lp] X.env = (false, eval (.Constant (.int lim) j lp) X.env) :: starEach [] X.env := by rfl)
    (hpl : (backTo cp (starEach [.Constant (.int lim) j lp] X.env)).any (·.1) = false := by rfl) (hd : (sc == ("__debug__" : Str)) = false := by decide) (hcd : (sc == ("__classdict__" : Str)) = false := by decide) :
    DS ⟨tabR T (scrR K p), S0, H0, E⟩ X (.For (.Name bg bp) (.Call (.Name x fp) [.Name sc ap, .Constant (.int lim) j lp] [] cp) body [] pos) (tFor (iList K (tCall (spBags K) [] E0 (tCons (tVar 0) (tCons (tC (.int lim)) tNil)))) (gName ib) tb) (dBagsT T p n) := by
  subst hK
  obtain ⟨f, fd, ps, hF, gm, kp, bnd⟩ := c.ex
  refine ⟨ps_for hp hc (pi_list (pe_call hF hr hg gm kp bnd .nil passN (pa_cons (pe_var h0 hv hd hcd) (pa_cons pe_int pa_nil he2) he) hdb he hpl)) (pg_name hNd hi hx hf) (hb 0 S0 H0).pe (by intro _; rfl), fun S H σ τ D R q => ?_⟩
  unfold dBagsT at q
  split at q
  · rename_i v es
    by_cases z : v = .ref p.1 ∧ τ.sl.length = n
    · rw [if_pos z] at q
      obtain ⟨rfl, hn⟩ := z
      have e0 : σ[0]? = some (some (.ref p.1)) := R.sl 0 _ es
      refine ⟨.ref p.1, e0, p, lim, S, rfl, R.sub, R.res.1, hl, l1, l2, fun D' abs drs S' H' aft hD bgs hdr => ?_⟩
      have R1 : Rel ⟨tabR T (scrR X.K p), S0, H0, E⟩ S' H' σ ⟨τ.sl, ()⟩ := R.grown (After.tabs (R := scrR X.K p) (γ := ()) R.res aft)
      refine ⟨D', rfl, ⟨_, SqL.of hD⟩, for_it (walk_list (xs := abs.map V.ref)) (fun i σ' Hi => ∃ Si : Hp, σ'.length = σ.length ∧ Same S' Si ∧ Same Si Hi ∧ (∀ b o, b ∉ T.map Prod.fst → H0 b = some o → Hi b = some o) ∧ (∀ b o, Si b = some o → S0 b = some o ∨ H0 b = none) ∧ Hi D' = some (.lst (abs.map V.ref)) ∧
        (∀ j ab, i ≤ j → abs[j]? = some ab → Hi ab = H' ab ∧ Si ab = none) ∧ (∀ p ∈ T, TabO Si Hi p) ∧ ∀ b ∈ T.map Prod.fst, Si b = none) ⟨S', rfl, Same.refl _, R1.sub, fun b o nb e => R1.ent b o (fun z => z.elim (fun z => z) nb) e, R1.new, hD, fun j ab _ e => ?_, R1.res.2.1, fun b m => R1.mS b (.inr m)⟩ (fun i σ' Hi _ ⟨Si, _, _, _, _, _, e, _⟩ => SqL.of e) (fun i x σ1 Ha Hb hlt pv y => ?_) (fun σ1 Ha pv => ?_)⟩
      · obtain ⟨al, d, _, _, _, s, _⟩ := bgs.at_ j ab e
        exact ⟨rfl, s⟩
      · obtain ⟨Si, p1, p2, p3, p4, p5, p6, p7, pT, pN⟩ := pv
        obtain ⟨rfl, ex⟩ := y
        rw [List.getElem?_map] at ex
        obtain ⟨ab, ea, rfl⟩ := Option.map_eq_some_iff.mp ex
        obtain ⟨al, d, d1, d2, d3, d4, d5⟩ := bgs.at_ i ab ea
        obtain ⟨q1, q2⟩ := p7 i ab (Nat.le_refl _) ea
        obtain ⟨τ', g1, g2⟩ := good ab d (hdr d (List.mem_of_getElem? d1))
        have hg1 : Hb ab = some (.lst [.ref al, .int 0]) := q1.trans d2
        have hg2 : Si al = some (.lst (d.map V.int)) := p2 _ _ d3
        have hH0 : H0 ab = none := (R.hnone d5).2.1
        have lstT : ∀ {b : Addr} {xs : List V}, Hb b = some (.lst xs) → b ∉ T.map Prod.fst := fun {b xs} e m => by
          obtain ⟨p', hp', rfl⟩ := List.mem_map.mp m
          obtain ⟨tb, e2, _⟩ := pT p' hp'
          rw [e] at e2
          cases e2
        have hlen : (bagSlotsT T n ib ab d).sl.length = n := by simp [bagSlotsT]
        have hσ : σ.length = n := R.len.trans hn
        have slo : ∀ (i' : Nat) (s : Sl), (bagSlotsT T n ib ab d).sl[i']? = some s → s = .un ∨ (i' = ib ∧ s = .rw (.ref ab)) := fun i' s e => by
          have e : ((List.replicate n Sl.un).set ib (.rw (.ref ab)))[i']? = some s := e
          rw [List.getElem?_set] at e
          by_cases z : ib = i'
          · rw [if_pos z] at e
            split at e
            · exact .inr ⟨z.symm, (Option.some.inj e).symm⟩
            · cases e
          · rw [if_neg z] at e
            obtain ⟨h1, h2⟩ := List.getElem?_eq_some_iff.mp e
            rw [List.getElem_replicate] at h2
            exact .inl h2.symm
        have hib : ib < σ1.length := by
          rw [p1, hσ, ← hN]
          exact (List.getElem?_eq_some_iff.mp hi).1
        have R2 : Rel ⟨tabR T (bagR ab), Si, Hb, E⟩ Si Hb (σ1.set ib (some (.ref ab))) (bagSlotsT T n ib ab d) := by
          refine ⟨p3, fun _ _ _ e => e, Same.refl _, fun _ _ e => .inl e, fun b m => ?_, by rw [List.length_set, p1, hσ, hlen], fun i' s e => ?_, fun i' j' s s' b e1 e2 o1 o2 _ _ => ?_, ⟨⟨al, hg1, hg2⟩, pT, fun b m => ?_⟩, fun b m => ?_⟩
          · rcases m with m | m
            · have m : b = ab := m
              subst m
              exact q2
            · exact pN b m
          · rcases slo i' s e with rfl | ⟨rfl, rfl⟩
            · trivial
            · show (σ1.set i' (some (V.ref ab)))[i']? = some (some (V.ref ab))
              rw [List.getElem?_set_self hib]
          · rcases slo i' s e1 with rfl | ⟨rfl, rfl⟩ <;> cases o1
          · have m : b = ab := m
            subst m
            exact lstT hg1
          · rcases m with m | m
            · have m : b = ab := m
              subst m
              show Hb b ≠ none
              rw [hg1]
              exact fun z => nomatch z
            · obtain ⟨p', hp', rfl⟩ := List.mem_map.mp m
              obtain ⟨tb, e2, _⟩ := pT p' hp'
              show Hb p'.1 ≠ none
              rw [e2]
              exact fun z => nomatch z
        refine (hb ab Si Hb).sd Si Hb _ _ _ R2 ?_
        rw [g1]
        intro S3 H3 σ3 s3 r3
        refine ⟨S3, ?_, p2.trans s3, r3.sub, fun b o nb e => ?_, fun b o e => ?_, ?_, fun j' ab' hj e => ?_, r3.res.2.1, fun b m => r3.mS b (.inr m)⟩
        · rw [r3.len, g2, ← hσ]
        · by_cases z : b = ab
          · subst z
            rw [hH0] at e
            cases e
          · exact r3.ent b o (fun m => m.elim z nb) (p4 b o nb e)
        · rcases r3.new b o e with e | e
          · exact p5 b o e
          · right
            have e : Hb b = none := e
            cases q : H0 b with
            | none => rfl
            | some u =>
              by_cases nb : b ∈ T.map Prod.fst
              · obtain ⟨p', hp', rfl⟩ := List.mem_map.mp nb
                obtain ⟨tb, e2, _⟩ := pT p' hp'
                rw [e2] at e
                cases e
              · rw [p4 b u nb q] at e
                cases e
        · refine r3.ent _ _ (fun z => ?_) p6
          have z : D' = ab := z.elim id fun z => absurd z (lstT p6)
          subst z
          rw [p6] at hg1
          have e2 := HO.lst.inj (Option.some.inj hg1)
          have c1 : (abs.map V.ref)[1]? = some (V.int 0) := by
            rw [e2]
            rfl
          rw [List.getElem?_map] at c1
          obtain ⟨_, _, c2⟩ := Option.map_eq_some_iff.mp c1
          cases c2
        · have ne : ab' ≠ ab := fun z => by
            subst z
            obtain ⟨h1, h2⟩ := List.getElem?_eq_some_iff.mp ea
            obtain ⟨h3, h4⟩ := List.getElem?_eq_some_iff.mp e
            have := (List.getElem_inj (h₀ := h1) (h₁ := h3) bgs.nd).mp (h2.trans h4.symm)
            omega
          obtain ⟨r1, r2⟩ := p7 j' ab' (by omega) e
          obtain ⟨al', d', _, x2, _, _, _⟩ := bgs.at_ j' ab' e
          have x3 : Hb ab' = some (.lst [.ref al', .int 0]) := r1.trans x2
          refine ⟨(r3.ent _ _ (fun m => m.elim ne (lstT x3)) x3).trans x3.symm |>.trans r1, ?_⟩
          cases q : S3 ab' with
          | none => rfl
          | some u =>
            rcases r3.new ab' u q with e | e
            · have e : Si ab' = some u := e
              rw [r2] at e
              cases e
            · have e : Hb ab' = none := e
              rw [x3] at e
              cases e
      · obtain ⟨Si, p1, p2, p3, p4, p5, p6, p7, pT, pN⟩ := pv
        refine q Si Ha σ1 (aft.s.trans p2) ⟨p3, fun b o n e => p4 b o (fun m => n (.inr m)) e, R.s0.trans (aft.s.trans p2), p5, fun b m => m.elim False.elim (pN b), ?_, fun i' s e => ?_, fun i' j' s s' b e1 e2 o1 o2 _ _ => ?_, ⟨p2.seq aft.ok, pT, fun b m => m.elim⟩, R.m0⟩
        · show σ1.length = (List.replicate n Sl.un).length
          rw [p1, List.length_replicate]
          exact R.len.trans hn
        · obtain ⟨h1, h2⟩ := List.getElem?_eq_some_iff.mp e
          have h2 : (List.replicate n Sl.un)[i']'h1 = s := h2
          rw [List.getElem_replicate] at h2
          subst h2
          trivial
        · obtain ⟨h1, h2⟩ := List.getElem?_eq_some_iff.mp e1
          have h2 : (List.replicate n Sl.un)[i']'h1 = s := h2
          rw [List.getElem_replicate] at h2
          subst h2
          cases o1
    · rw [if_neg z] at q
      exact q.elim
  · exact q.elim
end
/-! ### the law -/
def spLawT (K : PySem.W.Frag) (cs : List (Addr × Addr)) : Sp := fun vs H Q _ => ∃ (p : Addr × List Int), vs = [.ref p.1] ∧ SqL K H p.1 (p.2.map V.int) ∧ p.2.length ≤ 63 ∧ (∀ c ∈ cs, H c.2 = some (.tbl #[])) ∧ ∀ H', Q (.bl true) H'
end Kn
set_option Elab.async false
set_option linter.all false
set_option maxRecDepth 100000
set_option maxHeartbeats 4000000
namespace Kn
open PySem PySem.Spec L2
open PyProof.Rows hiding St
/-! ### x.remove(e), x an own list of ints that holds it -/
def dRem {R : Rsc} (i : Nat) (g : Den R) : DenS R := fun τ => match τ.sl[i]? with
  | some (.ow _) => (g τ).bind fun p => match p.1, p.2.sl[i]? with
    | .sh (.int k), some (.ow ds) => match asInts ds with
      | some ns => if k ∈ ns then .ok (.nx (p.2.put i (.ow (nsD (ns.erase k))))) else .bad
      | none => .bad
    | _, _ => .bad
  | _ => .bad
@[simp] theorem ev_dRem {R : Rsc} (i : Nat) (g : Den R) (τ : Tau R) : dRem i g τ = (match τ.sl[i]? with
  | some (.ow _) => (g τ).bind fun p => match p.1, p.2.sl[i]? with
    | .sh (.int k), some (.ow ds) => match asInts ds with
      | some ns => if k ∈ ns then .ok (.nx (p.2.put i (.ow (nsD (ns.erase k))))) else .bad
      | none => .bad
    | _, _ => .bad
  | _ => .bad) := rfl
@[simp] theorem ev_toResX {R : Rsc} (e : Exn R) : toRes (.exc e : Out (Exn R) (Fl R)) = some (.err e.C e.f e.γ) := rfl
@[simp] theorem ev_dCallT {ι : Type} {Rs : ι → Rsc} {ad : ι → Addr} {T : List Tabl} {i : ι} (F : RFn Rs) (g : DenA (tabR T (Rs i))) (τ : Tau (tabR T (Rs i))) : dCallT T Rs ad i F g τ = ((g τ).bind fun p => match p.1 with
  | .rw v :: rest => if v = .ref (ad i) then match allData rest with
    | some ds => match F i p.2.γ ds with
      | some (.ok val γ') => if val.out = true then .ok (val, ⟨p.2.sl, γ'⟩) else .bad
      | _ => .bad
    | none => .bad
    else .bad
  | _ => .bad) := rfl
section
variable {X : Cx} {B : Bs} {e : Expr} {te : TE} {ge : Den B.R}
theorem takes_no : Takes X (fun _ _ _ _ => False) := fun _ _ ⟨_, _, _, _, _, _, _, _, _, _, _, _, _, _, _, _, w⟩ => w.elim
theorem ds_remove (i : Nat) {x : Str} {p apos cpos pos : Pos} (hc : X.calm = true) (he : DE B X e te ge) (hN : X.N[i]? = some x := by rfl) (hv : Vis X.env.scope x := by first | exact Or.inl rfl | exact Or.inr (Or.inl rfl) | exact Or.inr (Or.inr rfl))
    (hbase : attributeBase (.Name x p) "remove" X.env (eval (.Name x p) X.env) = eval (.Name x p) X.env := by rfl)
    (hfew : ((backTo cpos (starEach [e] X.env)).all (fun x => !x.1) && (backToKw cpos (keywordEach [] X.env)).all (fun x => x.1.isSome)
      && decide (([e] : List Expr).length + ([] : List Keyword).length + (if ([] : List Keyword).isEmpty then 0 else 1) < 30)) = true := by rfl)
    (hline : (apos.endLine == cpos.line) = true := by rfl) (hs : starEach [e] X.env = (false, eval e X.env) :: starEach [] X.env := by rfl) (hplain : (backTo cpos (starEach [] X.env)).any (·.1) = false := by rfl)
    (hsw : swapsWith (.Call (.Attribute (.Name x p) "remove" apos) [e] [] cpos) none pos.line X.env = pure false := by rfl) (hd : (x == ("__debug__" : Str)) = false := by decide) (hcd : (x == ("__classdict__" : Str)) = false := by decide) :
    DS B X (.Expr (.Call (.Attribute (.Name x p) "remove" apos) [e] [] cpos) pos) (tDrop (tRemX X.K (fun _ _ _ _ => False) (tVar i) te)) (dRem i ge) := by
  refine ⟨ps_expr (pe_remX hc takes_no (pe_var hN hv hd hcd) he.pe hbase hfew hline hs hplain) hsw, fun S H σ τ D R q => ?_⟩
  unfold dRem at q
  split at q
  · rename_i ds0 e0
    obtain ⟨a, vs, ea, h1, k1, _⟩ := R.setOw e0
    refine ⟨.ref a, ea, .inl ⟨rfl, _, SqL.of h1⟩, he.sd S H σ τ _ R (sat_e q fun val τ' v S' H' _ G R o _ q => ?_)⟩
    split at q
    · rename_i k ds e1 e2
      simp only at e1 e2
      subst e1
      obtain ⟨a', ws, ea', h2, k2, up⟩ := R.setOw e2
      rw [ea] at ea'
      cases ea'
      split at q
      · rename_i ns en
        split at q
        · rename_i hk
          have eds := of_asInts en
          subst eds
          have ew := DqA.of_nsD k2
          subst ew
          cases o
          exact ⟨a, ns, k, rfl, rfl, h2, fun _ => q S' _ σ (Same.refl _) (up _ _ (DqA.ints_ _ _)), fun n => absurd hk n⟩
        · exact q.elim
      · exact q.elim
    · exact q.elim
  · exact q.elim
/-! names set, by what they mean -/
theorem snd_name {i : Nat} : SndG B false (gName i) (setN i) [i] := by
  refine fun S H σ τ v d τ' Q R k e q => ?_
  have k : Dq S v d := k.elim id fun z => Bool.noConfusion z.1
  unfold setN at e
  by_cases h : i < τ.sl.length
  · rw [if_pos h] at e
    cases e
    exact q _ (Rel.store (val := .sh d) R k rfl h) (List.length_set ..) (fun vs hv => wipe_set (hv i (by simp))) fun b o => own_store (s := .sh d) rfl o
  · rw [if_neg h] at e
    cases e
theorem snds_nil : SndGs B gNil (setNil (R := B.R)) [] := fun S H σ τ ws ds τ' Q R k e q => by
  cases k with
  | nil =>
    cases e
    exact ⟨rfl, q σ R rfl (fun _ _ => rfl) fun _ o => o⟩
  | cons _ _ => cases e
theorem snds_cons {t : TG} {u : TGs} {f : SetD B.R} {g : List PyData → Tau B.R → Option (Tau B.R)} {is js : List Nat} (h1 : SndG B false t f is) (h2 : SndGs B u g js) : SndGs B (gCons t u) (setCons f g) (is ++ js) := by
  refine fun S H σ τ ws ds τ' Q R k e q => ?_
  cases k with
  | nil => cases e
  | cons k1 k2 =>
    obtain ⟨τ1, e1, e2⟩ := Option.bind_eq_some_iff.mp (show (f _ τ).bind _ = _ from e)
    refine ⟨_, _, rfl, h1 S H σ τ _ _ τ1 _ R (.inl k1) e1 fun σ1 R1 l1 w1 o1 => ?_⟩
    refine h2 S H σ1 τ1 _ _ τ' _ R1 k2 e2 fun σ2 R2 l2 w2 o2 => ?_
    exact q σ2 R2 (l2.trans l1) (fun vs hv => (w2 vs fun i hi => hv i (List.mem_append_right _ hi)).trans (w1 vs fun i hi => hv i (List.mem_append_left _ hi))) fun b o => o1 b (o2 b o)
end
/-! a lambda's block lets out what its def does -/
abbrev lamN : List Str := ["a", "b", "c", "d"]
def qLam (x : Str) : Str := (x ++ ".<locals>.") ++ "<lambda>"
theorem passes_ncx {P : Program} {w : World} {K : PySem.W.Frag} {mg : Str → Option Value} {base : Heap} {N : List Str} {F : NdefX.NF} {f : Addr} {A : Around} {outer : List Env} {s : Shared} {H : Hp} {E : XK} :
    Passes (L2N.CX P w) (NdefX.ncx (L2N.CX P w) P w K mg base N F f A outer s H E) E := L2N.passes_call (L2N.takes_of rfl rfl rfl rfl) fun _ _ _ _ h => h
/-! ### the law, its code object told -/
section
variable {P : Program} {w : World} {K : PySem.W.Frag} {mg : Str → Option Value} {base : Heap}
theorem fn_lawC {x qual : Str} {st : Stmt} {f ct0 : Addr} {oc kV doc pm ct : Value} {an od : Option Addr} {osl : Array (Option Value)} {sc : Str} {N : List Str} {k : Nat} {T : List Tabl} {cs : List (Addr × Addr)} (hT : ∀ p ∈ T, ∃ c ∈ cs, c.2 = p.1)
    (lk : K.lookup f = some ⟨oc, od, .func (PySem.W.fnOf x qual (defArgs st) (defBody st) (defScope st) .none kV doc pm an (.ref ct0) ct), osl⟩) (hcd : PySem.W.codeIn K (.ref ct0) qual = true) (Sc : FnScope N [sc] (defScope st)) (g : ∀ p, DenS (tabR T (scrR K p)))
    (hbody : ∀ (p : Addr × List Int) (A : Around) (outer : List Env) (s : Shared) (S H : Hp) (E : XK), p.2.length ≤ 63 → Room k (A.deeper (envOfC qual (defScope st) s.heap.objs.size f (.ref ct0))) →
      ∃ t, DSs ⟨tabR T (scrR K p), S, H, E⟩ (cxOf (L2N.CX P w) P w K mg base N qual (defScope st) f (.ref ct0) A outer s H E) (defBody st) t (g p))
    (heq : ∀ p, Gd (g p (entry N.length [.ref p.1] [] ())) (.ok (.sh (.bool true)) ())) : FnOk P w K mg base (L2N.CX P w) (k + 1) f (PySem.W.fnOf x qual (defArgs st) (defBody st) (defScope st) .none kV doc pm an (.ref ct0) ct) [sc] (spLawT K cs) := by
  refine fn_of lk hcd Sc (fun vs H Q E h => ?_) (fun A outer s H vs Q E hr h => ?_)
  · obtain ⟨p, rfl, _⟩ := h
    rfl
  · obtain ⟨p, rfl, hq, hl, hcs, q⟩ := h
    have isT : ∀ b ∈ T.map Prod.fst, H b = some (.tbl #[]) := fun b m => by
      obtain ⟨p', hp', rfl⟩ := List.mem_map.mp m
      obtain ⟨c, hc, e⟩ := hT p' hp'
      rw [← e]
      exact hcs c hc
    generalize hS : (fun b => if b ∈ T.map Prod.fst then none else H b : Hp) = S
    have sIn : ∀ {b : Addr}, b ∈ T.map Prod.fst → S b = none := fun {b} m => by
      rw [← hS]
      exact if_pos m
    have sOut : ∀ {b : Addr}, b ∉ T.map Prod.fst → S b = H b := fun {b} m => by
      rw [← hS]
      exact if_neg m
    have sm : Same S H := fun b o e => by
      by_cases m : b ∈ T.map Prod.fst
      · rw [sIn m] at e
        cases e
      · rw [← sOut m]
        exact e
    have hq' : SqL K S p.1 (p.2.map V.int) := by
      have nt : ∀ o, H p.1 = some o → (∀ xs, o ≠ .tbl xs) → S p.1 = H p.1 := fun o e n => sOut fun m => n #[] (Option.some.inj (e.symm.trans (isT _ m)))
      rcases hq with (h | ⟨o, h⟩) | h
      · exact .inl (.inl ((nt _ h fun xs z => nomatch z).trans h))
      · exact .inl (.inr ⟨o, (nt _ h fun xs z => nomatch z).trans h⟩)
      · exact .inr h
    obtain ⟨t, D⟩ := hbody p A outer s S H E hl hr
    have hl : ([V.ref p.1] ++ [] : List V).length ≤ N.length := by
      have : (N.take 1).length = 1 := by rw [show N.take 1 = [sc] from Sc.pre]; rfl
      rw [List.length_take] at this
      show 1 ≤ N.length
      omega
    have tabs : ∀ p' ∈ T, TabO S H p' := fun p' hp' => ⟨#[], isT _ (List.mem_map.mpr ⟨_, hp', rfl⟩), True.intro, fun pos cv e => by
      have z : codeAmong pos [] = some cv := e
      simp [codeAmong] at z⟩
    refine ⟨t, D.pe, run_body D sm (fun b m => m.elim False.elim fun m => sIn m) ⟨hq', tabs, fun b m => m.elim⟩ (.nil) hl (heq p) ?_⟩
    intro v S' H' _ k
    cases k
    exact q H'
end
end Kn
set_option Elab.async false
set_option linter.all false
set_option maxRecDepth 100000
set_option maxHeartbeats 4000000
namespace Kn
open PySem PySem.Spec L2
open PyProof.Rows hiding St
/-! ### repr of a bool -/
def rReprB : List V → Hp → VK → Prop := fun xs H Q => ∃ b : Bool, xs = [.bl b] ∧ Q (.str (if b then "True" else "False")) H
theorem call_reprB {X : Cx} : CallR X (.builtin "repr") rReprB := by
  intro pins s σ H xs us Q I r h
  obtain ⟨b, rfl, q⟩ := h
  obtain ⟨u, rfl, e⟩ := vals1 r
  have e : u = Value.bool b := e
  subst e
  exact PySem.P.repr_of_bool ⟨.str _, H, I.tok _, ⟨_, rfl⟩, q⟩
def fReprB : List Val → Option Val
  | [.sh (.bool b)] => some (.sh (.str (if b then "True" else "False")))
  | _ => none
theorem s_reprB {B : Bs} : CallS B rReprB fReprB := by
  intro S H σ τ vs as c Q R ka e q
  unfold fReprB at e
  split at e
  · rename_i b
    cases e
    cases ka with
    | cons k r =>
      cases r
      cases k
      exact ⟨b, rfl, q _ S H .refl R (Dq.str _) frS⟩
  · cases e
@[simp] theorem ev_fReprB (b : Bool) : fReprB [.sh (.bool b)] = some (.sh (.str (if b then "True" else "False"))) := rfl
/-! ### isinstance(x, (T1, T2)) -/
def dIsiT2 {R : Rsc} (T1 T2 : String) (g : Den R) : Den R := fun τ => (g τ).bind fun p => match p.1.data with
  | some (.dict _) => .bad
  | some d => if tyOk T1 = true ∧ tyOk T2 = true then .ok (.sh (.bool (isTy T1 d || isTy T2 d)), p.2) else .bad
  | none => .bad
theorem kit_any2 {K : PySem.W.Frag} {n T1 T2 : String} {b1 b2 : Bool} (h1 : PySem.W.kitOne K (.type n) (.type T1) = some b1) (h2 : PySem.W.kitOne K (.type n) (.type T2) = some b2) : PySem.W.kitAny K (.type n) [.type T1, .type T2] = some (b1 || b2) := by
  unfold PySem.W.kitAny
  rw [h1]
  cases b1 with
  | true => rfl
  | false =>
    simp only
    unfold PySem.W.kitAny
    rw [h2]
    cases b2 <;> rfl
section
variable {X : Cx} {B : Bs} {e : Expr} {te : TE} {ge : Den B.R} {p p1 p2 p3 pos : Pos} {x1 : Nat}
theorem de_isiT2 {T1 T2 : String} {n1 n2 : Str} {K : PySem.W.Frag} (hgi : Gl X "isinstance") (hi : X.mg "isinstance" = none) (he : DE B X e te ge) (hT : PA X [.Name n1 p1, .Name n2 p2] (tCons (tC (.ty T1)) (tCons (tC (.ty T2)) tNil)))
    (h1 : starEach [e, .Tuple [.Name n1 p1, .Name n2 p2] x1 p3] X.env = (false, eval e X.env) :: starEach [.Tuple [.Name n1 p1, .Name n2 p2] x1 p3] X.env := by rfl) (h2 : starEach [.Tuple [.Name n1 p1, .Name n2 p2] x1 p3] X.env = (false, eval (.Tuple [.Name n1 p1, .Name n2 p2] x1 p3) X.env) :: starEach [] X.env := by rfl)
    (hpl : (backTo pos (starEach [.Tuple [.Name n1 p1, .Name n2 p2] x1 p3] X.env)).any (·.1) = false := by rfl) (hK : X.K = K := by rfl) :
    DE B X (.Call (.Name "isinstance" p) [e, .Tuple [.Name n1 p1, .Name n2 p2] x1 p3] [] pos) (tCB (rIsiT K) (tCons te (tCons (tTup (tCons (tC (.ty T1)) (tCons (tC (.ty T2)) tNil))) tNil))) (dIsiT2 T1 T2 ge) := by
  subst hK
  refine ⟨pe_callB call_isiT hgi hi (by decide +kernel) (pa_cons he.pe (pa_cons (pe_tup hT) pa_nil h2) h1) (by decide) (by decide) h1 hpl, fun S H σ τ Q R q => ?_⟩
  refine he.sd S H σ τ _ R (Sat.step (f := fun p => match p.1.data with
    | some (.dict _) => .bad
    | some d => if tyOk T1 = true ∧ tyOk T2 = true then .ok (Val.sh (.bool (isTy T1 d || isTy T2 d)), p.2) else .bad
    | none => .bad) q fun val τ1 v S1 H1 _ G1 R1 o1 _ q1 => ?_)
  refine ⟨by show 2 ≤ sizeLine; decide, fun tp hp => ?_⟩
  simp only at q1
  split at q1
  · exact q1.elim
  · rename_i d nd ed
    split at q1
    · rename_i hty
      have nd' : ∀ x, d ≠ .dict x := fun x z => nd x z
      have G2 := Gro.lay (o := .tup [.ty T1, .ty T2]) (sl := τ1.sl) R1 hp
      have R2 := R1.lay (o := .tup [.ty T1, .ty T2]) hp
      have o2 := VOk.gro G2 o1
      refine ⟨v, tp, [.ty T1, .ty T2], .type (tyName d), [.type T1, .type T2], isTy T1 d || isTy T2 d, rfl, upd_same, .cons (.ty T1) (.cons (.ty T2) .nil), dq_ty R2 o2 ed nd', ?_, q1 _ S1 _ G2 R2 (Dq.bl _) frS⟩
      rw [isTy_eq hty.1 d nd', isTy_eq hty.2 d nd']
      exact kit_any2 (kit_ty (kit_all hty.1 _ (tyName_mem d nd'))) (kit_ty (kit_all hty.2 _ (tyName_mem d nd')))
    · exact q1.elim
  · exact q1.elim
end
@[simp] theorem ev_dIsiT2 {R : Rsc} (T1 T2 : String) (g : Den R) (τ : Tau R) : dIsiT2 T1 T2 g τ = ((g τ).bind fun p => match p.1.data with
  | some (.dict _) => .bad
  | some d => if tyOk T1 = true ∧ tyOk T2 = true then .ok (.sh (.bool (isTy T1 d || isTy T2 d)), p.2) else .bad
  | none => .bad) := rfl
/-! ### the bag's parts, read by the law -/
def dBag0 {T : List Tabl} {ab : Addr} (i : Nat) : Den (tabR T (bagR ab)) := fun τ => match τ.sl[i]? with
  | some (.rw v) => if v = .ref ab then .ok (.sh (.list (nsD τ.γ.1)), τ) else .bad
  | _ => .bad
def dBag1 {T : List Tabl} {ab : Addr} (i : Nat) : Den (tabR T (bagR ab)) := fun τ => match τ.sl[i]? with
  | some (.rw v) => if v = .ref ab then .ok (.sh (.int τ.γ.2), τ) else .bad
  | _ => .bad
@[simp] theorem ev_dBag0 {T : List Tabl} {ab : Addr} (i : Nat) (τ : Tau (tabR T (bagR ab))) : dBag0 i τ = (match τ.sl[i]? with
  | some (.rw v) => if v = .ref ab then .ok (.sh (.list (nsD τ.γ.1)), τ) else .bad
  | _ => .bad) := rfl
@[simp] theorem ev_dBag1 {T : List Tabl} {ab : Addr} (i : Nat) (τ : Tau (tabR T (bagR ab))) : dBag1 i τ = (match τ.sl[i]? with
  | some (.rw v) => if v = .ref ab then .ok (.sh (.int τ.γ.2), τ) else .bad
  | _ => .bad) := rfl
section
variable {X : Cx} {T : List Tabl} {ab : Addr} {S0 H0 : Hp} {E : XK} {p p2 pos : Pos} {j : Nat}
theorem de_bag0 (i : Nat) {x : Str} {K : PySem.W.Frag} (hN : X.N[i]? = some x := by rfl) (hv : Vis X.env.scope x := by first | exact Or.inl rfl | exact Or.inr (Or.inl rfl) | exact Or.inr (Or.inr rfl)) (hd : (x == ("__debug__" : Str)) = false := by decide) (hcd : (x == ("__classdict__" : Str)) = false := by decide) (hK : X.K = K := by rfl) :
    DE ⟨tabR T (bagR ab), S0, H0, E⟩ X (.Subscript (.Name x p) (.Constant (.int 0) j p2) pos) (tOp (rIxL K) (tVar i) (tC (.int 0))) (dBag0 i) := by
  subst hK
  refine ⟨pe_ix ix_list (pe_var hN hv hd hcd) pe_int (fun _ _ => rfl), fun S H σ τ Q R q => ?_⟩
  unfold dBag0 at q
  split at q
  · rename_i v e
    by_cases z : v = .ref ab
    · rw [if_pos z] at q
      subst z
      have es : σ[i]? = some (some (.ref ab)) := R.sl i _ e
      obtain ⟨al, h1, h2⟩ := R.res.1
      exact ⟨.ref ab, es, ab, _, 0, .ref al, rfl, rfl, SqL.of h1, rfl, q _ S H .refl R (Dq.lst h2 (DqA.ints_ _ _)) frS⟩
    · rw [if_neg z] at q
      exact q.elim
  · exact q.elim
theorem de_bag1 (i : Nat) {x : Str} {K : PySem.W.Frag} (hN : X.N[i]? = some x := by rfl) (hv : Vis X.env.scope x := by first | exact Or.inl rfl | exact Or.inr (Or.inl rfl) | exact Or.inr (Or.inr rfl)) (hd : (x == ("__debug__" : Str)) = false := by decide) (hcd : (x == ("__classdict__" : Str)) = false := by decide) (hK : X.K = K := by rfl) :
    DE ⟨tabR T (bagR ab), S0, H0, E⟩ X (.Subscript (.Name x p) (.Constant (.int 1) j p2) pos) (tOp (rIxL K) (tVar i) (tC (.int 1))) (dBag1 i) := by
  subst hK
  refine ⟨pe_ix ix_list (pe_var hN hv hd hcd) pe_int (fun _ _ => rfl), fun S H σ τ Q R q => ?_⟩
  unfold dBag1 at q
  split at q
  · rename_i v e
    by_cases z : v = .ref ab
    · rw [if_pos z] at q
      subst z
      have es : σ[i]? = some (some (.ref ab)) := R.sl i _ e
      obtain ⟨al, h1, h2⟩ := R.res.1
      exact ⟨.ref ab, es, ab, _, 1, .int _, rfl, rfl, SqL.of h1, rfl, q _ S H .refl R (Dq.int _) frS⟩
    · rw [if_neg z] at q
      exact q.elim
  · exact q.elim
end
end Kn
set_option Elab.async false
set_option linter.all false
set_option maxRecDepth 100000
set_option maxHeartbeats 4000000
namespace Kn
open PySem PySem.Spec L2
open PyProof.Rows hiding St
/-! ### one resource within another -/
structure Emb (R R' : Rsc) where
  get : R'.Γ → R.Γ
  put : R'.Γ → R.Γ → R'.Γ
  sub : ∀ b, R.M b → R'.M b
  ok : ∀ γ S H, R'.ok γ S H → R.ok (get γ) S H
  back : ∀ γ γ1 S H S1 H1, R'.ok γ S H → Same S S1 → (∀ b o, R'.M b → ¬ R.M b → H b = some o → H1 b = some o) → R.ok γ1 S1 H1 → R'.ok (put γ γ1) S1 H1
abbrev Emb.self (R : Rsc) : Emb R R := ⟨fun γ => γ, fun _ γ => γ, fun _ m => m, fun _ _ _ h => h, fun _ _ _ _ _ _ _ _ _ h => h⟩
abbrev prodR (R1 R2 : Rsc) : Rsc where
  Γ := R1.Γ × R2.Γ
  M := fun b => R1.M b ∨ R2.M b
  ok := fun γ S H => R1.ok γ.1 S H ∧ R2.ok γ.2 S H ∧ ∀ b, R1.M b → ¬ R2.M b
  stab := fun γ S H S' H' hs hm h => ⟨R1.stab _ _ _ _ _ hs (fun b m => hm b (.inl m)) h.1, R2.stab _ _ _ _ _ hs (fun b m => hm b (.inr m)) h.2.1, h.2.2⟩
  mem := fun γ S H b h m => m.elim (R1.mem _ _ _ _ h.1) (R2.mem _ _ _ _ h.2.1)
theorem kept_by {R : Rsc} {γ : R.Γ} {S H S1 H1 : Hp} (h : R.ok γ S H) (hs : Same S S1) (k : ∀ b, R.M b → ∀ o, H b = some o → H1 b = some o) : R.ok γ S1 H1 := by
  refine R.stab _ _ _ _ _ hs (fun b m => ?_) h
  cases e : H b with
  | none => exact absurd e (R.mem _ _ _ _ h m)
  | some o => exact k b m o e
abbrev Emb.fst (R1 R2 : Rsc) : Emb R1 (prodR R1 R2) := ⟨fun γ => γ.1, fun γ γ1 => (γ1, γ.2), fun _ m => .inl m, fun _ _ _ h => h.1, fun γ γ1 S H S1 H1 h hs k h1 => ⟨h1, kept_by h.2.1 hs fun b m o e => k b o (.inr m) (fun z => h.2.2 b z m) e, h.2.2⟩⟩
abbrev Emb.snd (R1 R2 : Rsc) : Emb R2 (prodR R1 R2) := ⟨fun γ => γ.2, fun γ γ1 => (γ.1, γ1), fun _ m => .inr m, fun _ _ _ h => h.2.1, fun γ γ1 S H S1 H1 h hs k h1 => ⟨kept_by h.1 hs fun b m o e => k b o (.inl m) (fun z => h.2.2 b m z) e, h1, h.2.2⟩⟩
abbrev Emb.comp {R1 R2 R3 : Rsc} (e : Emb R1 R2) (f : Emb R2 R3) : Emb R1 R3 := ⟨fun γ => e.get (f.get γ), fun γ γ1 => f.put γ (e.put (f.get γ) γ1), fun b m => f.sub b (e.sub b m), fun γ S H h => e.ok _ _ _ (f.ok _ _ _ h),
  fun γ γ1 S H S1 H1 h hs k h1 => f.back _ _ _ _ _ _ h hs (fun b o m3 n e1 => k b o m3 (fun m => n (e.sub b m)) e1) (e.back _ _ _ _ _ _ (f.ok _ _ _ h) hs (fun b o m n e1 => k b o (f.sub b m) n e1) h1)⟩
/-- beside a third -/
abbrev Emb.lift {R1 R : Rsc} (e : Emb R1 R) (R2 : Rsc) : Emb (prodR R1 R2) (prodR R R2) := ⟨fun γ => (e.get γ.1, γ.2), fun γ γ1 => (e.put γ.1 γ1.1, γ1.2), fun b m => m.imp (e.sub b) id, fun γ S H h => ⟨e.ok _ _ _ h.1, h.2.1, fun b m => h.2.2 b (e.sub b m)⟩,
  fun γ γ1 S H S1 H1 h hs k h1 => ⟨e.back _ _ _ _ _ _ h.1 hs (fun b o m n e1 => k b o (.inl m) (fun z => z.elim n (h.2.2 b m)) e1) h1.1, h1.2.1, h.2.2⟩⟩
theorem After.emb {R R' : Rsc} (e : Emb R R') {γ : R'.Γ} {γ1 : R.Γ} {S H S1 H1 : Hp} (h0 : R'.ok γ S H) (a : After R S H γ1 S1 H1) : After R' S H (e.put γ γ1) S1 H1 :=
  ⟨a.s, fun b o n e1 => a.h b o (fun m => n (e.sub b m)) e1, fun b o e1 => (a.n b o e1).imp id fun z => ⟨fun m => R'.mem _ _ _ _ h0 m z.2, z.2⟩, a.sub, e.back _ _ _ _ _ _ h0 a.s (fun b o _ n e1 => a.h b o n e1) a.ok⟩
/-! ### a callee that is handed a part of what is ours -/
section
variable {ι : Type} {Rs : ι → Rsc} {ad : ι → Addr} {X : Cx} {B : Bs} {i : ι} {e : Expr} {es : List Expr} {t : TA} {ga : DenA B.R} {pos apos p : Pos} {k : Nat}
def resE {R : Rsc} (em : Emb (Rs i) R) (F : RFn Rs) (ds : List PyData) (τ : Tau R) : Out (Exn R) (Val × Tau R) := match F i (em.get τ.γ) ds with
  | some (.ok val γ') => if val.out = true then .ok (val, ⟨τ.sl, em.put τ.γ γ'⟩) else .bad
  | _ => .bad
def dCallE {R : Rsc} (ad : ι → Addr) (em : Emb (Rs i) R) (F : RFn Rs) (g : DenA R) : Den R := fun τ => (g τ).bind fun p => match p.1 with
  | .rw v :: rest => if v = .ref (ad i) then match allData rest with
    | some ds => resE em F ds p.2
    | none => .bad
    else .bad
  | _ => .bad
theorem resE_in {F : RFn Rs} {E : XK} (em : Emb (Rs i) B.R) {S H S1 H1 : Hp} {σ : L2.St} {τ τ1 : Tau B.R} {Q : VK} {rest : List Val} {ds : List PyData} {ws : List V} (R1 : Rel B S1 H1 σ τ1) (kr : Paired (fun v val => VOk B S1 H1 σ τ1.sl v val) ws rest) (e : allData rest = some ds) (h1 : Sat B (okV B σ) S1 H1 τ1 (resE em F ds τ1) Q) :
    spR Rs ad F (.ref (ad i) :: ws) H1 Q E := by
  unfold resE at h1
  have ka := args_ok (B := B) (RR := Rs i) em.sub R1 kr e
  cases ef : F i (em.get τ1.γ) ds with
  | none => simp only [ef] at h1; exact h1.elim
  | some r =>
    simp only [ef] at h1
    cases r with
    | ok val γ' =>
      refine ⟨i, ws, S1, em.get τ1.γ, ds, .ok val γ', rfl, R1.sub, fun b m => R1.mS b (em.sub b m), em.ok _ _ _ R1.res, ka, ef, ?_⟩
      simp only at h1
      by_cases ho : val.out = true
      · rw [if_pos ho] at h1
        intro v S' H' a k
        obtain ⟨kv, kf⟩ := k.v R1 (out_bo ho).1 (out_bo ho).2
        have a' := After.emb em R1.res a
        exact h1 v S' H' (Gro.grown R1 a') (R1.grown a') kv kf
      · rw [if_neg ho] at h1
        exact h1.elim
    | err C f u => exact h1.elim
theorem snd_callE {F : RFn Rs} {E : XK} (em : Emb (Rs i) B.R) (ha : SndA B t ga) : SndE B (tCall (spR Rs ad F) [] E t) (dCallE ad em F ga) := by
  refine fun S H σ τ Q R q => ha S H σ τ _ R (Sat.step (f := fun p => match p.1 with
    | .rw v :: rest => if v = .ref (ad i) then match allData rest with
      | some ds => resE em F ds p.2
      | none => .bad
      else .bad
    | _ => .bad) q fun x τ1 vs S1 H1 _ G1 R1 o1 _ h1 => ?_)
  split at h1
  · rename_i v rest e0
    simp only at e0
    subst e0
    cases o1 with
    | cons k0 kr =>
      rename_i v' ws _fr
      have k0 : v' = v := k0
      subst k0
      by_cases hv : v' = .ref (ad i)
      · rw [if_pos hv] at h1
        subst hv
        cases e : allData rest with
        | none => simp only [e] at h1; exact h1.elim
        | some ds =>
          simp only [e] at h1
          rw [List.append_nil]
          exact resE_in (H := H) (S := S) (τ := τ) em R1 kr e h1
      · rw [if_neg hv] at h1
        exact h1.elim
  · exact h1.elim
theorem de_calE {x : Str} {F : RFn Rs} (em : Emb (Rs i) B.R) (c : CalR Rs ad X.prog X.w X.K X.mg X.base x k F) (hr : Room k X.A) (hg : Gl X x) (ha : DA B X (e :: es) t ga)
    (hdb : (x == ("__debug__" : Str)) = false := by decide) (he : starEach (e :: es) X.env = (false, eval e X.env) :: starEach es X.env := by rfl) (hpl : (backTo pos (starEach es X.env)).any (·.1) = false := by rfl) :
    DE B X (.Call (.Name x p) (e :: es) [] pos) (tCall (spR Rs ad F) [] E0 t) (dCallE ad em F ga) := by
  obtain ⟨f, fd, ps, h, gm, kp, b⟩ := c.ex
  exact ⟨pe_call h hr hg gm kp b .nil passN ha.pe hdb he hpl, snd_callE em ha.sd⟩
@[simp] theorem ev_dCallE {R : Rsc} (em : Emb (Rs i) R) (F : RFn Rs) (g : DenA R) (τ : Tau R) : dCallE ad em F g τ = ((g τ).bind fun p => match p.1 with
  | .rw v :: rest => if v = .ref (ad i) then match allData rest with
    | some ds => resE em F ds p.2
    | none => .bad
    else .bad
  | _ => .bad) := rfl
@[simp] theorem ev_resE {R : Rsc} (em : Emb (Rs i) R) (F : RFn Rs) (ds : List PyData) (τ : Tau R) : resE em F ds τ = (match F i (em.get τ.γ) ds with
  | some (.ok val γ') => if val.out = true then .ok (val, ⟨τ.sl, em.put τ.γ γ'⟩) else .bad
  | _ => .bad) := rfl
end
/-! ### objects of a class with two fields -/
structure KA where
  a : Addr
  dx : Addr
  p : Addr
abbrev kFs (r : V) (p : Addr) : List (Str × V) := [("row", r), ("past", .ref p)]
abbrev kepR (C : Addr) (i : KA) : Rsc where
  Γ := PyData × List PyData
  M := fun b => b = i.a ∨ b = i.dx ∨ b = i.p
  ok := fun γ S H => ∃ (r : V) (vs : List V), H i.a = some (.ins C i.dx (kFs r i.p)) ∧ H i.dx = some (.own i.a) ∧ H i.p = some (.lst vs) ∧ Dq S r γ.1 ∧ DqA S vs γ.2
  stab := fun γ S H S' H' hs hm ⟨r, vs, h1, h2, h3, h4, h5⟩ => ⟨r, vs, by rw [hm _ (.inl rfl)]; exact h1, by rw [hm _ (.inr (.inl rfl))]; exact h2, by rw [hm _ (.inr (.inr rfl))]; exact h3, h4.mono hs, h5.mono hs⟩
  mem := fun γ S H b ⟨r, vs, h1, h2, h3, _, _⟩ m e => by
    rcases m with rfl | rfl | rfl
    · rw [h1] at e; cases e
    · rw [h2] at e; cases e
    · rw [h3] at e; cases e
/-- what is to be seen of the class -/
structure KC (K : PySem.W.Frag) (C : Addr) : Prop where
  c : Cls K C
  row : NoAttr K C "row"
  past : NoAttr K C "past"
abbrev MFn (C : Addr) := RFn (kepR C)
structure CalM (C : Addr) (P : Program) (w : World) (K : PySem.W.Frag) (mg : Str → Option Value) (base : Heap) (m : Str) (k : Nat) (F : MFn C) : Prop where
  ex : ∃ (f : Addr) (fd : FuncData) (ps : List Str), FnOk P w K mg base (L2N.CX P w) k f fd ps (spR (kepR C) KA.a F) ∧ Meth K C m f ∧ Binds K fd ps []
theorem CalM.of {C : Addr} {P : Program} {w : World} {K : PySem.W.Frag} {mg : Str → Option Value} {base : Heap} {m : Str} {k : Nat} {F : MFn C} {f : Addr} {fd : FuncData} {ps : List Str} (h : FnOk P w K mg base (L2N.CX P w) (k + 1) f fd ps (spR (kepR C) KA.a F)) (hm : Meth K C m f) (b : Binds K fd ps []) : CalM C P w K mg base m (k + 1) F := ⟨f, fd, ps, h, hm, b⟩
/-- a slot that holds the object -/
def atO {R : Rsc} (n : Nat) (i : KA) (f : Tau R → Out (Exn R) (Val × Tau R)) : Den R := fun τ => match τ.sl[n]? with
  | some (.rw v) => if v = .ref i.a then f τ else .bad
  | _ => .bad
def dKRow {R : Rsc} {C : Addr} {i : KA} (em : Emb (kepR C i) R) (n : Nat) : Den R := atO n i fun τ => .ok (.sh (em.get τ.γ).1, τ)
def dKLast {R : Rsc} {C : Addr} {i : KA} (em : Emb (kepR C i) R) (n : Nat) : Den R := atO n i fun τ => match atI (em.get τ.γ).2 (-1) with
  | some d => .ok (.sh d, τ)
  | none => .bad
def dKLen {R : Rsc} {C : Addr} {i : KA} (em : Emb (kepR C i) R) (n : Nat) : Den R := atO n i fun τ => .ok (.sh (.int (em.get τ.γ).2.length), τ)
section
variable {X : Cx} {B : Bs} {C : Addr} {i : KA} {p p2 p3 pos apos : Pos} {x : Str} {n j : Nat}
theorem atO_in {S H : Hp} {σ : L2.St} {τ : Tau B.R} {f : Tau B.R → Out (Exn B.R) (Val × Tau B.R)} {Q : VK} (R : Rel B S H σ τ) (q : Sat B (okV B σ) S H τ (atO n i f τ) Q) : σ[n]? = some (some (.ref i.a)) ∧ τ.sl[n]? = some (.rw (.ref i.a)) ∧ Sat B (okV B σ) S H τ (f τ) Q := by
  unfold atO at q
  split at q
  · rename_i v e
    by_cases z : v = .ref i.a
    · rw [if_pos z] at q
      subst z
      exact ⟨R.sl n _ e, e, q⟩
    · rw [if_neg z] at q
      exact q.elim
  · exact q.elim
theorem de_krow (em : Emb (kepR C i) B.R) (n : Nat) {K : PySem.W.Frag} (kc : KC X.K C) (hN : X.N[n]? = some x := by rfl) (hv : Vis X.env.scope x := by first | exact Or.inl rfl | exact Or.inr (Or.inl rfl) | exact Or.inr (Or.inr rfl)) (hd : (x == ("__debug__" : Str)) = false := by decide) (hcd : (x == ("__classdict__" : Str)) = false := by decide)
    (hb : attributeBase (.Name x p) "row" X.env (eval (.Name x p) X.env) = eval (.Name x p) X.env := by rfl) (hK : X.K = K := by rfl) : DE B X (.Attribute (.Name x p) "row" pos) (tFld K (tVar n) "row") (dKRow em n) := by
  subst hK
  refine ⟨pe_fld (pe_var hN hv hd hcd) hb, fun S H σ τ Q R q => ?_⟩
  obtain ⟨h1, _, q⟩ := atO_in R q
  obtain ⟨r, vs, e1, e2, e3, e4, e5⟩ := em.ok _ _ _ R.res
  exact ⟨.ref i.a, h1, i.a, C, i.dx, _, r, rfl, e1, kc.c, kc.row, rfl, q _ S H .refl R e4 frS⟩
theorem de_klast (em : Emb (kepR C i) B.R) (n : Nat) {K : PySem.W.Frag} (kc : KC X.K C)(hN : X.N[n]? = some x := by rfl) (hv : Vis X.env.scope x := by first | exact Or.inl rfl | exact Or.inr (Or.inl rfl) | exact Or.inr (Or.inr rfl)) (hd : (x == ("__debug__" : Str)) = false := by decide) (hcd : (x == ("__classdict__" : Str)) = false := by decide)
    (hb : attributeBase (.Name x p) "past" X.env (eval (.Name x p) X.env) = eval (.Name x p) X.env := by rfl) (hK : X.K = K := by rfl) :
    DE B X (.Subscript (.Attribute (.Name x p) "past" apos) (.UnaryOp .USub (.Constant (.int 1) j p2) p3) pos) (tOp (rIxL K) (tFld K (tVar n) "past") (tUn (rU fun i => V.int (-i)) (tC (V.int 1)))) (dKLast em n) := by
  subst hK
  have he : DE B X (.UnaryOp .USub (.Constant (.int 1) j p2) p3) (tUn (rU fun i => V.int (-i)) (tC (V.int 1))) (dUn fNeg (dC (.int 1))) := de_neg de_int
  have h1 : ∀ τ : Tau B.R, (dUn fNeg (dC (.int 1)) : Den B.R) τ = .ok (.sh (.int (-1)), τ) := fun _ => rfl
  refine ⟨pe_ix ix_list (pe_fld (pe_var hN hv hd hcd) hb) he.pe (by exact fun _ _ => rfl), fun S H σ τ Q R q => ?_⟩
  obtain ⟨h2, _, q⟩ := atO_in R q
  obtain ⟨r, vs, e1, e2, e3, e4, e5⟩ := em.ok _ _ _ R.res
  refine ⟨.ref i.a, h2, i.a, C, i.dx, _, .ref i.p, rfl, e1, kc.c, kc.past, rfl, ?_⟩
  refine he.sd S H σ τ _ R ?_
  rw [h1]
  intro v S1 H1 G1 R1 o1 _
  cases o1
  split at q
  · rename_i d ed
    obtain ⟨r', vs', e1', e2', e3', e4', e5'⟩ := em.ok _ _ _ R1.res
    obtain ⟨v', ev, k⟩ := atI_map e5' ed
    exact ⟨i.p, vs', -1, v', rfl, rfl, SqL.of e3', ev, q v' S1 H1 G1 R1 k frS⟩
  · exact q.elim
theorem de_klen (em : Emb (kepR C i) B.R) (n : Nat) {K : PySem.W.Frag} (kc : KC X.K C) (hgl : Gl X "len") (hml : X.mg "len" = none) (hN : X.N[n]? = some x := by rfl) (hv : Vis X.env.scope x := by first | exact Or.inl rfl | exact Or.inr (Or.inl rfl) | exact Or.inr (Or.inr rfl)) (hd : (x == ("__debug__" : Str)) = false := by decide) (hcd : (x == ("__classdict__" : Str)) = false := by decide)
    (hb : attributeBase (.Name x p) "past" X.env (eval (.Name x p) X.env) = eval (.Name x p) X.env := by rfl) (hK : X.K = K := by rfl)
    (he : starEach [.Attribute (.Name x p) "past" apos] X.env = (false, eval (.Attribute (.Name x p) "past" apos) X.env) :: starEach [] X.env := by rfl) (hpl : (backTo pos (starEach [] X.env)).any (·.1) = false := by rfl) :
    DE B X (.Call (.Name "len" p2) [.Attribute (.Name x p) "past" apos] [] pos) (tCB (fun xs H Q => ∃ p ys, xs = [.ref p] ∧ (SqL K H p ys ∨ SqT K H p ys) ∧ Q (.int ys.length) H) (tCons (tFld K (tVar n) "past") tNil)) (dKLen em n) := by
  subst hK
  refine ⟨pe_callB call_len_seq hgl hml PySem.boot_len (pa_cons (pe_fld (pe_var hN hv hd hcd) hb) pa_nil he) (by decide) (by decide) he hpl, fun S H σ τ Q R q => ?_⟩
  obtain ⟨h2, _, q⟩ := atO_in R q
  obtain ⟨r, vs, e1, e2, e3, e4, e5⟩ := em.ok _ _ _ R.res
  refine ⟨.ref i.a, h2, i.a, C, i.dx, _, .ref i.p, rfl, e1, kc.c, kc.past, rfl, i.p, vs, rfl, .inl (SqL.of e3), ?_⟩
  rw [e5.len]
  exact q _ S H .refl R (Dq.int _) frS

theorem kset (em : Emb (kepR C i) B.R) {S H : Hp} {σ : L2.St} {τ : Tau B.R} (R : Rel B S H σ τ) {vs : List V} {ds : List PyData} (k : DqA S vs ds) : Rel B S (upd H i.p (.lst vs)) σ ⟨τ.sl, em.put τ.γ ((em.get τ.γ).1, ds)⟩ := by
  obtain ⟨r, vs0, e1, e2, e3, e4, e5⟩ := em.ok _ _ _ R.res
  have n1 : i.a ≠ i.p := ne_of e1 e3 (fun z => nomatch z)
  have n2 : i.dx ≠ i.p := ne_of e2 e3 (fun z => nomatch z)
  have sp : S i.p = none := R.mS _ (em.sub _ (.inr (.inr rfl)))
  have a : After (kepR C i) S H ((em.get τ.γ).1, ds) S (upd H i.p (.lst vs)) := by
    refine ⟨Same.refl _, fun b o n e => ?_, fun _ _ e => .inl e, fun b o e => ?_, r, vs, by rw [upd_ne n1]; exact e1, by rw [upd_ne n2]; exact e2, upd_same, e4, k⟩
    · rw [upd_ne fun z => n (.inr (.inr z))]
      exact e
    · rw [upd_ne fun z => by rw [z, sp] at e; cases e]
      exact R.sub _ _ e
  exact R.grown (After.emb em R.res a)
def atOS {R : Rsc} (n : Nat) (i : KA) (f : DenS R) : DenS R := fun τ => match τ.sl[n]? with
  | some (.rw v) => if v = .ref i.a then f τ else .bad
  | _ => .bad
theorem atOS_in {S H : Hp} {σ : L2.St} {τ : Tau B.R} {f : DenS B.R} {D : Ends} (R : Rel B S H σ τ) (q : SatS B S (atOS n i f τ) D) : σ[n]? = some (some (.ref i.a)) ∧ τ.sl[n]? = some (.rw (.ref i.a)) ∧ SatS B S (f τ) D := by
  unfold atOS at q
  split at q
  · rename_i v e
    by_cases z : v = .ref i.a
    · rw [if_pos z] at q
      subst z
      exact ⟨R.sl n _ e, e, q⟩
    · rw [if_neg z] at q
      exact q.elim
  · exact q.elim
def dKApp {R : Rsc} {C : Addr} {i : KA} (em : Emb (kepR C i) R) (n : Nat) (g : Den R) : DenS R := atOS n i fun τ => (g τ).bind fun p => match p.1 with
  | .sh d => if (em.get p.2.γ).2.length < sizeLine then .ok (.nx ⟨p.2.sl, em.put p.2.γ ((em.get p.2.γ).1, (em.get p.2.γ).2 ++ [d])⟩) else .bad
  | _ => .bad
def dKPop {R : Rsc} {C : Addr} {i : KA} (em : Emb (kepR C i) R) (n : Nat) : DenS R := atOS n i fun τ => if 0 < (em.get τ.γ).2.length then .ok (.nx ⟨τ.sl, em.put τ.γ ((em.get τ.γ).1, (em.get τ.γ).2.dropLast)⟩) else .bad
theorem DqA.dropLast {S : Hp} : ∀ {vs : List V} {ds : List PyData}, DqA S vs ds → DqA S vs.dropLast ds.dropLast
  | _, _, .nil => .nil
  | [_], [_], .cons _ .nil => .nil
  | _ :: _ :: _, _ :: _ :: _, .cons k (.cons k2 r) => .cons k (DqA.dropLast (.cons k2 r))
theorem ds_kapp {e : Expr} {te : TE} {ge : Den B.R} {cpos : Pos} (em : Emb (kepR C i) B.R) (n : Nat) {K : PySem.W.Frag} (kc : KC X.K C) (he : DE B X e te ge) (hN : X.N[n]? = some x := by rfl) (hv : Vis X.env.scope x := by first | exact Or.inl rfl | exact Or.inr (Or.inl rfl) | exact Or.inr (Or.inr rfl)) (hd : (x == ("__debug__" : Str)) = false := by decide) (hcd : (x == ("__classdict__" : Str)) = false := by decide)
    (hb : attributeBase (.Name x p) "past" X.env (eval (.Name x p) X.env) = eval (.Name x p) X.env := by rfl)
    (hbase : attributeBase (.Attribute (.Name x p) "past" p2) "append" X.env (eval (.Attribute (.Name x p) "past" p2) X.env) = eval (.Attribute (.Name x p) "past" p2) X.env := by rfl)
    (hfew : ((backTo cpos (starEach [e] X.env)).all (fun x => !x.1) && (backToKw cpos (keywordEach [] X.env)).all (fun x => x.1.isSome)
      && decide ([e].length + ([] : List Keyword).length + (if ([] : List Keyword).isEmpty then 0 else 1) < 30)) = true := by rfl)
    (hline : (apos.endLine == cpos.line) = true := by rfl) (hs : starEach [e] X.env = (false, eval e X.env) :: starEach [] X.env := by rfl) (hplain : (backTo cpos (starEach [] X.env)).any (·.1) = false := by rfl)
    (hsw : swapsWith (.Call (.Attribute (.Attribute (.Name x p) "past" p2) "append" apos) [e] [] cpos) none pos.line X.env = pure false := by rfl) (hK : X.K = K := by rfl) :
    DS B X (.Expr (.Call (.Attribute (.Attribute (.Name x p) "past" p2) "append" apos) [e] [] cpos) pos) (tDrop (tBM K "list" rAppend (tFld K (tVar n) "past") (tCons te tNil))) (dKApp em n ge) := by
  subst hK
  refine ⟨ps_expr (pe_bm PySem.F.plainAttrs_list PySem.F.slot_list_append PySem.F.type_list_append mt_append (pe_fld (pe_var hN hv hd hcd) hb) (pa_cons he.pe pa_nil hs) hbase hfew hline hs hplain) hsw, fun S H σ τ D R q => ?_⟩
  obtain ⟨h1, _, q⟩ := atOS_in R q
  obtain ⟨r, vs, e1, e2, e3, e4, e5⟩ := em.ok _ _ _ R.res
  refine ⟨.ref i.a, h1, i.a, C, i.dx, _, .ref i.p, rfl, e1, kc.c, kc.past, rfl, .inl ⟨rfl, _, SqL.of e3⟩, he.sd S H σ τ _ R (sat_e q fun val τ' v S' H' _ G R o _ q => ?_)⟩
  split at q
  · rename_i d e0
    simp only at e0
    subst e0
    obtain ⟨r', vs', e1', e2', e3', e4', e5'⟩ := em.ok _ _ _ R.res
    split at q
    · rename_i hz
      exact ⟨i.p, vs', v, rfl, rfl, e3', by rw [e5'.len]; exact hz, q S' _ σ (Same.refl _) (kset em R (e5'.append (.cons o .nil)))⟩
    · exact q.elim
  · exact q.elim
theorem ds_kpop {cpos : Pos} (em : Emb (kepR C i) B.R) (n : Nat) {K : PySem.W.Frag} (kc : KC X.K C) (hN : X.N[n]? = some x := by rfl) (hv : Vis X.env.scope x := by first | exact Or.inl rfl | exact Or.inr (Or.inl rfl) | exact Or.inr (Or.inr rfl)) (hd : (x == ("__debug__" : Str)) = false := by decide) (hcd : (x == ("__classdict__" : Str)) = false := by decide)
    (hb : attributeBase (.Name x p) "past" X.env (eval (.Name x p) X.env) = eval (.Name x p) X.env := by rfl)
    (hbase : attributeBase (.Attribute (.Name x p) "past" p2) "pop" X.env (eval (.Attribute (.Name x p) "past" p2) X.env) = eval (.Attribute (.Name x p) "past" p2) X.env := by rfl)
    (hline : (apos.endLine == cpos.line) = true := by rfl)
    (hsw : swapsWith (.Call (.Attribute (.Attribute (.Name x p) "past" p2) "pop" apos) [] [] cpos) none pos.line X.env = pure false := by rfl) (hK : X.K = K := by rfl) :
    DS B X (.Expr (.Call (.Attribute (.Attribute (.Name x p) "past" p2) "pop" apos) [] [] cpos) pos) (tDrop (tBM0 K "list" rPop (tFld K (tVar n) "past"))) (dKPop em n) := by
  subst hK
  refine ⟨ps_expr (pe_bm0 PySem.F.plainAttrs_list PySem.F.slot_list_pop PySem.F.type_list_pop mt_pop (pe_fld (pe_var hN hv hd hcd) hb) hbase hline) hsw, fun S H σ τ D R q => ?_⟩
  obtain ⟨h1, _, q⟩ := atOS_in R q
  obtain ⟨r, vs, e1, e2, e3, e4, e5⟩ := em.ok _ _ _ R.res
  by_cases hz : 0 < (em.get τ.γ).2.length
  · rw [if_pos hz] at q
    have hl := e5.len
    have hlt : vs.length - 1 < vs.length := by omega
    refine ⟨.ref i.a, h1, i.a, C, i.dx, _, .ref i.p, rfl, e1, kc.c, kc.past, rfl, .inl ⟨rfl, _, SqL.of e3⟩, i.p, vs, vs[vs.length - 1], rfl, rfl, e3, List.getElem?_eq_getElem hlt, ?_⟩
    exact q S _ σ (Same.refl _) (kset em R e5.dropLast)
  · rw [if_neg hz] at q
    exact q.elim
/-! a method's call -/
def dMethE {R : Rsc} {C : Addr} {i : KA} (em : Emb (kepR C i) R) (n : Nat) (F : MFn C) (g : DenA R) : Den R := atO n i fun τ => (g τ).bind fun p => match allData p.1 with
  | some ds => resE em F ds p.2
  | none => .bad
theorem methE_sd {t : TA} {ga : DenA B.R} {m : Str} {F : MFn C} (em : Emb (kepR C i) B.R) (n : Nat) (hm : ∀ r q, (kFs r q).lookup m = none) (ha : SndA B t ga) : SndE B (tMeth C m (spR (kepR C) KA.a F) [] E0 (tVar n) t) (dMethE em n F ga) := by
  refine fun S H σ τ Q R q => ?_
  obtain ⟨h1, _, q⟩ := atO_in R q
  obtain ⟨r, vs, e1, e2, e3, e4, e5⟩ := em.ok _ _ _ R.res
  refine ⟨.ref i.a, h1, i.a, i.dx, _, rfl, e1, hm _ _, ha S H σ τ _ R (Sat.step (f := fun p => match allData p.1 with
    | some ds => resE em F ds p.2
    | none => .bad) q fun x τ1 vs S1 H1 _ G1 R1 o1 _ h1 => ?_)⟩
  cases e : allData x with
  | none => simp only [e] at h1; exact h1.elim
  | some ds =>
    simp only [e] at h1
    rw [List.append_nil]
    exact resE_in (ad := KA.a) (H := H) (S := S) (τ := τ) em R1 o1 e h1
section
variable {m : Str} {F : MFn C} {k : Nat} {e : Expr} {es : List Expr} {t : TA} {ga : DenA B.R}
theorem de_methE {pl : Sem Bool} (em : Emb (kepR C i) B.R) (n : Nat) (kc : KC X.K C) (c : CalM C X.prog X.w X.K X.mg X.base m k F) (hr : Room k X.A) (ha : DA B X (e :: es) t ga) (hm : ∀ r q, (kFs r q).lookup m = none := by intro _ _; rfl)
    (hN : X.N[n]? = some x := by rfl) (hv : Vis X.env.scope x := by first | exact Or.inl rfl | exact Or.inr (Or.inl rfl) | exact Or.inr (Or.inr rfl)) (hd : (x == ("__debug__" : Str)) = false := by decide) (hcd : (x == ("__classdict__" : Str)) = false := by decide)
    (hst : starEach (e :: es) X.env = (false, eval e X.env) :: starEach es X.env := by rfl) (hpl : (backTo pos (starEach es X.env)).any (·.1) = false := by rfl)
    (ht : eval (.Call (.Attribute (.Name x p) m apos) (e :: es) [] pos) X.env = (do
      let ov ← eval (.Name x p) X.env
      standAt apos.atName
      let (f, first) ← holding [ov] (getMethod ov m pl)
      callWith pos f first (backTo pos (starEach (e :: es) X.env)) (backToKw pos (keywordEach [] X.env))) := by rfl) :
    DE B X (.Call (.Attribute (.Name x p) m apos) (e :: es) [] pos) (tMeth C m (spR (kepR C) KA.a F) [] E0 (tVar n) t) (dMethE em n F ga) := by
  obtain ⟨f, fd, ps, h, mt, b⟩ := c.ex
  exact ⟨pe_meth (pl := pl) (pe_var hN hv hd hcd) kc.c mt h hr b .nil passN ha.pe hst hpl ht, methE_sd em n hm ha.sd⟩
theorem de_meth0 {pl : Sem Bool} (em : Emb (kepR C i) B.R) (n : Nat) (kc : KC X.K C) (c : CalM C X.prog X.w X.K X.mg X.base m k F) (hr : Room k X.A) (hm : ∀ r q, (kFs r q).lookup m = none := by intro _ _; rfl)
    (hN : X.N[n]? = some x := by rfl) (hv : Vis X.env.scope x := by first | exact Or.inl rfl | exact Or.inr (Or.inl rfl) | exact Or.inr (Or.inr rfl)) (hd : (x == ("__debug__" : Str)) = false := by decide) (hcd : (x == ("__classdict__" : Str)) = false := by decide)
    (ht : eval (.Call (.Attribute (.Name x p) m apos) [] [] pos) X.env = (do
      let ov ← eval (.Name x p) X.env
      standAt apos.atName
      let (f, first) ← holding [ov] (getMethod ov m pl)
      callWith pos f first (backTo pos (starEach [] X.env)) (backToKw pos (keywordEach [] X.env))) := by rfl) :
    DE B X (.Call (.Attribute (.Name x p) m apos) [] [] pos) (tMeth C m (spR (kepR C) KA.a F) [] E0 (tVar n) tNil) (dMethE em n F dNil) := by
  obtain ⟨f, fd, ps, h, mt, b⟩ := c.ex
  exact ⟨pe_meth0 (pl := pl) (pe_var hN hv hd hcd) kc.c mt h hr b .nil passN ht, methE_sd em n hm (da_nil (X := X)).sd⟩
end
end
/-! ### sum of a list or a tuple of ints -/
def rSumA (K : PySem.W.Frag) : List V → Hp → VK → Prop := fun vs H Q => ∃ (a : Addr) (ns : List Int), vs = [V.ref a] ∧ (SqL K H a (ns.map V.int) ∨ SqT K H a (ns.map V.int)) ∧ Q (.int ns.sum) H
theorem cr_sumA {X : Cx} (hc : X.calm = true) : CallR X (.builtin "sum") (rSumA X.K) := by
  intro pins s σ H vs us Q I r h
  obtain ⟨a, ns, rfl, hs, q⟩ := h
  rcases hs with hs | hs
  · exact cr_sum hc pins s σ H _ us Q I r ⟨a, ns, rfl, hs, q⟩
  · obtain ⟨its, rv, ht, _⟩ := I.tuple hs
    obtain ⟨u, rfl, e⟩ := vals1 r
    have e : u = Value.ref a := e
    subst e
    have hi := rv.ints
    obtain ⟨xs, ex⟩ := hi.allInts.items
    have hn : numsOf (intItems xs).toList = ns := by rw [← ex]; exact hi.numsOf
    rw [nums_intItems] at hn
    have ht : s.heap.IsTuple a (intItems xs) := by
      rw [← ex]
      exact ht
    refine PySem.W.ktm_sumG (I.ok.hd hc) ht fun h' tk t' hk => ?_
    rw [preSum_eq, List.take_of_length_le (by simp), hn]
    exact ⟨.int _, H, I.kept hk, ⟨_, rfl⟩, q⟩
def fSumA : List Val → Option Val
  | [a] => (a.seq.bind asInts).map fun ns => .sh (.int ns.sum)
  | _ => none
@[simp] theorem ev_fSumA (a : Val) : fSumA [a] = (a.seq.bind asInts).map fun ns => .sh (.int ns.sum) := rfl
theorem s_sumA {B : Bs} {K : PySem.W.Frag} : CallS B (rSumA K) fSumA := by
  intro S H σ τ vs as c Q R ka e q
  cases ka with
  | nil => cases e
  | cons a r =>
    cases r with
    | cons _ _ => cases e
    | nil =>
      obtain ⟨ns, e1, e2⟩ := Option.map_eq_some_iff.mp (show (Option.bind _ _).map _ = _ from e)
      subst e2
      obtain ⟨ds, e3, e4⟩ := Option.bind_eq_some_iff.mp e1
      rcases seq_tup e3 with e3 | e3
      · obtain ⟨p, ws, rfl, h, _, kk⟩ := VOk.lst R a e3
        rw [of_asInts e4] at kk
        rw [kk.of_nsD] at h
        exact ⟨p, ns, rfl, .inl (SqL.of h), q _ S H .refl R (Dq.int _) frS⟩
      · obtain ⟨p, o, ws, rfl, h, _, kk⟩ := VOk.tup a e3
        rw [of_asInts e4] at kk
        rw [kk.of_nsD] at h
        exact ⟨p, ns, rfl, .inr (sqtF (R.sub _ _ h)), q _ S H .refl R (Dq.int _) frS⟩
end Kn
set_option Elab.async false
set_option linter.all false
set_option maxRecDepth 100000
set_option maxHeartbeats 4000000
namespace Kn
open PySem PySem.Spec L2
open PyProof.Rows hiding St
/-! ### a tuple times a number, once or more -/
/-- once: the tuple itself -/
theorem mulT1 (a : Addr) (vs : Array Value) (m : Nat) (od : Option Addr) (slots : Array (Option Value)) (tk : Tok) : Meets (Builtin.«tuple.__mul__» ⟨[.ref a, .int 1 tk], []⟩)
    (fun _ R s => s.heap.get? a = some { cls := .type "tuple", dict := od, data := .seq vs m, slots := slots } ∧ R (.ok (.ret (.ref a))) s) :=
  .of_wp fun prog w A R s h => by
    obtain ⟨hp, g, d, tk, os⟩ := s
    obtain ⟨ha, h⟩ := h
    have f1 := AutoSeq1.idx_int
    have k0 : (decide ((1 : Int) < -(2 ^ 63)) || decide ((1 : Int) ≥ 2 ^ 63)) = false := by decide
    have k1 : (vs.isEmpty || (1 : Int) == 1) = true := by simp
    wp_walk using wpAny_loadPart' ha
    repeat (first
      | (refine wpAny_ite_false (by rw [k0]; simp) ?_; wp_walk using wpAny_loadPart' ha)
      | (refine wpAny_ite_true (by rw [k1]; simp) ?_; wp_walk using wpAny_loadPart' ha)
      | (refine wpAny_ite_true (by simp) ?_; wp_walk using wpAny_loadPart' ha))
    exact ⟨_, rfl, h⟩
def rRepF (K : PySem.W.Frag) : R2 := fun x y H Q => ∃ a n vs, x = .ref a ∧ y = .int n ∧ SqT K H a vs ∧ vs ≠ [] ∧ 1 ≤ n ∧ n ≤ 1000 ∧ vs.length ≤ 1000 ∧ (n = 1 → Q (.ref a) H) ∧ (n ≠ 1 → Nw H (List.replicate n.toNat vs).flatten Q)
theorem op_repF {X : Cx} : OpR X (binaryOp .Mult) (rRepF X.K) := by
  intro pins s σ H x y v u Q I rx ry h
  obtain ⟨a, n, vs, rfl, rfl, hT, hne, lo, hi, hv, q1, q2⟩ := h
  cases rx
  obtain ⟨tk, rfl⟩ := ry
  obtain ⟨us, r, ⟨⟨ocls, od, odata, oslots⟩, ho, hc, m, hd⟩, hus⟩ := I.tuple hT
  simp only at hc hd
  subst hc hd
  have hlen : us.length = vs.length := r.length.symm
  have hne' : us ≠ [] := fun z => hne (r.nil_iff.mp z)
  have emp : us.toArray.isEmpty = false := by
    cases us with
    | nil => exact absurd rfl hne'
    | cons _ _ => rfl
  have siz : us.toArray.size = vs.length := by rw [List.size_toArray, hlen]
  refine wpAny_binaryOp_repeat_ref (T := "tuple") (U := "int") (by decide) ⟨_, ho, rfl⟩ (fun s' => typeIs_int s' n tk) noFill_tuple_mul F.fills_int_mul F.slot_int_rmul repeat_tuple F.slot_int_index.lookup
    (call_meets F.slot_int_rmul (typeIs_int s n tk) F.entry_int_rmul (F.args_int_rmul_2 _ _) (int_rmul_tuple n tk a us.toArray m od oslots) ⟨ho, rfl, ⟨_, ho, rfl⟩, ?_⟩)
  by_cases one : n = 1
  · subst one
    exact call_meets F.slot_tuple_mul ⟨_, ho, rfl⟩ F.entry_tuple_mul (F.args_tuple_mul_2 _ _) (mulT1 a us.toArray m od oslots tk) ⟨ho, .ref a, H, I, rfl, q1 rfl⟩
  · have prod : n.toNat * vs.length ≤ 1000000 := Nat.le_trans (Nat.mul_le_mul (show n.toNat ≤ 1000 by omega) hv) (by decide)
    have prodI : ((us.toArray.size : Nat) : Int) * n ≤ 1000000 := by
      have z : ((vs.length * n.toNat : Nat) : Int) ≤ 1000000 := by rw [Nat.mul_comm]; exact Int.ofNat_le.mpr prod
      rw [Int.natCast_mul, Int.toNat_of_nonneg (by omega)] at z
      rw [siz]
      exact z
    have big : (1000000 : Nat) ≤ sizeLine := by decide
    have flat : (List.replicate n.toNat us).flatten.length ≤ sizeLine := by
      rw [PyProof.Rows.lm_len_rep_flat, hlen]
      exact Nat.le_trans prod big
    have many : Builtin.Tuple.tupleTooMany (((us.toArray.size : Nat) : Int) * n) = false := by
      unfold Builtin.Tuple.tupleTooMany
      exact decide_eq_false (by rw [sizeLine_eq]; omega)
    refine call_meets F.slot_tuple_mul ⟨_, ho, rfl⟩ F.entry_tuple_mul (F.args_tuple_mul_2 _ _) (tuple_mulW a us.toArray m od oslots n tk (by rw [decide_eq_false (by omega), decide_eq_false (by omega)]; rfl) (by rw [emp]; simp [one]) (by rw [emp, decide_eq_false (by omega)]; rfl) (by omega) many
      (by rw [size_rep, List.size_toArray]; exact flat)) ⟨ho, ?_⟩
    rw [size_rep]
    refine laidF I (r.rep n.toNat) ?_ (fun _ _ z => Heap.get?_push_of_some _ z) (Nat.le_refl _) (Heap.get?_push_size _ rfl) (q2 one)
    rw [PyProof.Rows.lm_len_rep_flat]
    exact Nat.le_trans prod big
def fRepT : Val → Val → Option Val := fun a b => match a.tup, b.int with
  | some ds, some n => if ds ≠ [] ∧ 1 ≤ n ∧ n ≤ 1000 ∧ ds.length ≤ 1000 then some (.sh (.tuple (List.replicate n.toNat ds).flatten)) else none
  | _, _ => none
theorem s_repF {B : Bs} {K : PySem.W.Frag} : OpS B (rRepF K) fRepT := by
  intro S H σ τ v w a b c Q R ka kb e q
  unfold fRepT at e
  cases ea : a.tup with
  | none => simp only [ea] at e; cases e
  | some ds =>
    cases eb : b.int with
    | none => simp only [ea, eb] at e; cases e
    | some n =>
      simp only [ea, eb] at e
      by_cases z : ds ≠ [] ∧ 1 ≤ n ∧ n ≤ 1000 ∧ ds.length ≤ 1000
      · rw [if_pos z] at e
        cases e
        obtain ⟨hne, h1, h2, h3⟩ := z
        obtain ⟨p, o, vs, rfl, hp, ho, kk⟩ := VOk.tup ka ea
        obtain ⟨rfl, _⟩ := kb.int eb
        refine ⟨p, n, vs, rfl, rfl, sqtF (R.sub _ _ hp), fun z => hne ?_, h1, h2, by rw [kk.len]; exact h3, fun one => ?_, fun _ t ob ht hn => ?_⟩
        · rw [z] at kk
          cases kk
          rfl
        · subst one
          refine q _ S H .refl R ?_ frS
          have e1 : (List.replicate (1 : Int).toNat ds).flatten = ds := by
            show (List.replicate 1 ds).flatten = ds
            simp
          rw [e1]
          exact Dq.tup hp ho kk
        · obtain ⟨g, r, k⟩ := lay_tup R ht hn (kk.rep n.toNat)
          exact q _ _ _ g r k frS
      · rw [if_neg z] at e
        cases e
/-- times, of numbers and tuples -/
def fMulT : Val → Val → Option Val := fun a b => (fMulI a b).or (fRepT a b)
theorem de_mulT {X : Cx} {B : Bs} {a b : Expr} {ta tb : TE} {ga gb : Den B.R} {pos : Pos} {K : PySem.W.Frag} (ha : DE B X a ta ga) (hb : DE B X b tb gb) (hK : X.K = K := by rfl) : DE B X (.BinOp a .Mult b pos) (tOp (rRepF K) ta tb) (dOp fRepT ga gb) := by
  subst hK
  exact de_op op_repF s_repF ha hb
end Kn
set_option Elab.async false
set_option linter.all false
set_option maxRecDepth 100000
set_option maxHeartbeats 4000000
namespace Kn
open PySem PySem.Spec L2
open PyProof.Rows hiding St
/-! ### __init__ -/
def rowFs : Option V → List (Str × V)
  | none => []
  | some r => [("row", r)]
abbrev iniR (C a dx : Addr) : Rsc where
  Γ := Option PyData
  M := fun b => b = a ∨ b = dx
  ok := fun γ S H => ∃ r : Option V, H a = some (.ins C dx (rowFs r)) ∧ H dx = some (.own a) ∧ (∀ v, r = some v → ∃ d, γ = some d ∧ Dq S v d) ∧ (r = none → γ = none)
  stab := fun γ S H S' H' hs hm ⟨r, h1, h2, h3, h4⟩ => ⟨r, by rw [hm _ (.inl rfl)]; exact h1, by rw [hm _ (.inr rfl)]; exact h2, fun v e => let ⟨d, e1, k⟩ := h3 v e; ⟨d, e1, k.mono hs⟩, h4⟩
  mem := fun γ S H b ⟨r, h1, h2, _⟩ m e => by
    rcases m with rfl | rfl
    · rw [h1] at e; cases e
    · rw [h2] at e; cases e
def dFRow {C a dx : Addr} (n : Nat) (g : Den (iniR C a dx)) : DenS (iniR C a dx) := fun τ => (g τ).bind fun p => match p.1, p.2.sl[n]?, p.2.γ with
  | .sh d, some (.rw v), none => if v = .ref a then .ok (.nx ⟨p.2.sl, some d⟩) else .bad
  | _, _, _ => .bad
section
variable {X : Cx} {C a dx : Addr} {S0 H0 : Hp} {E : XK} {x : Str} {p p2 pos : Pos}
theorem ds_frow {e : Expr} {te : TE} {ge : Den (iniR C a dx)} (n : Nat) {K : PySem.W.Frag} (kc : KC X.K C) (he : DE ⟨iniR C a dx, S0, H0, E⟩ X e te ge) (hN : X.N[n]? = some x := by rfl) (hv : Vis X.env.scope x := by first | exact Or.inl rfl | exact Or.inr (Or.inl rfl) | exact Or.inr (Or.inr rfl)) (hd : (x == ("__debug__" : Str)) = false := by decide) (hcd : (x == ("__classdict__" : Str)) = false := by decide)
    (hs : swapsWith e (some (.Attribute (.Name x p) "row" p2)) pos.line X.env = pure false := by rfl) (hK : X.K = K := by rfl) :
    DS ⟨iniR C a dx, S0, H0, E⟩ X (.Assign [.Attribute (.Name x p) "row" p2] e pos) (sFld K (tVar n) te "row") (dFRow n ge) := by
  subst hK
  refine ⟨ps_fld (pe_var hN hv hd hcd) he.pe hs, fun S H σ τ D R q => he.sd S H σ τ _ R (sat_e q fun val τ1 v S1 H1 _ G1 R1 o1 _ q1 => ?_)⟩
  split at q1
  · rename_i d w e1 e2 e3
    simp only at e1 e2 e3
    subst e1
    by_cases z : w = .ref a
    · rw [if_pos z] at q1
      subst z
      obtain ⟨r, h1, h2, h3, h4⟩ := R1.res
      have rn : r = none := by
        cases r with
        | none => rfl
        | some u =>
          obtain ⟨d', e4, _⟩ := h3 u rfl
          rw [e3] at e4
          cases e4
      subst rn
      refine ⟨.ref a, R1.sl n _ e2, a, C, dx, _, rfl, h1, kc.c, kc.row, by show 0 < 1000; decide, ?_⟩
      have sa : S1 a = none := R1.mS _ (.inl rfl)
      have nd : dx ≠ a := ne_of h2 h1 (fun z => nomatch z)
      have af : After (iniR C a dx) S1 H1 (some d) S1 (upd H1 a (.ins C dx (rowFs (some v)))) := by
        refine ⟨Same.refl _, fun b o m e => ?_, fun _ _ e => .inl e, fun b o e => ?_, some v, upd_same, by rw [upd_ne nd]; exact h2, fun u eu => ?_, fun z => nomatch z⟩
        · rw [upd_ne fun z => m (.inl z)]
          exact e
        · rw [upd_ne fun z => by rw [z, sa] at e; cases e]
          exact R1.sub _ _ e
        · cases eu
          exact ⟨d, rfl, o1⟩
      exact q1 S1 _ σ (Same.refl _) (R1.grown af)
    · rw [if_neg z] at q1
      exact q1.elim
  · exact q1.elim
end
/-- what the first row of numbers is -/
def past0 (n : Int) : PyData := .tuple [.tuple [], .tuple (nsD (List.replicate n.toNat 0))]
/-- what __init__ promises, of rows that are well -/
def spInit (C : Addr) (okRow : PyData → Option Int) : Sp := fun vs H Q _ => ∃ (a dx : Addr) (r : V) (S : Hp) (hd : PyData) (n : Int), vs = [.ref a, r] ∧ H a = some (.ins C dx []) ∧ H dx = some (.own a) ∧ S a = none ∧ S dx = none ∧ Same S H ∧ Dq S r hd ∧ okRow hd = some n ∧
  ∀ (S' H' : Hp) (p : Addr) (r' : V) (ws : List V), Same S S' → Same S' H' → (∀ b o, b ≠ a → b ≠ dx → H b = some o → H' b = some o) → (∀ b o, S' b = some o → S b = some o ∨ (H b = none ∧ b ≠ p)) →
    H' a = some (.ins C dx (kFs r' p)) → H' dx = some (.own a) → H p = none → S' p = none → H' p = some (.lst ws) → DqA S' ws [past0 n] → Dq S' r' hd → Q .non H'
section
variable {P : Program} {w : World} {K : PySem.W.Frag} {mg : Str → Option Value} {base : Heap}
theorem fn_init {C f : Addr} {st : Stmt} {fd : FuncData} {N : List Str} {k : Nat} {okRow : PyData → Option Int} {st1 st2 : Stmt} {ps pl pos3 : Pos} {e3 : Expr} (kc : KC K C) (Fu : Fun K "__init__" "Kept.__init__" st f fd) (Sc : FnScope N ["self", "row"] (defScope st))
    (hb : defBody st = [st1, st2, .Assign [.Attribute (.Name "self" ps) "past" pl] e3 pos3])
    (g1 g2 : ∀ a dx, DenS (iniR C a dx)) (g3 : ∀ a dx, Den (iniR C a dx))
    (h1 : ∀ (a dx : Addr) (cdv : Value) (A : Around) (outer : List Env) (s : Shared) (S H : Hp) (E : XK), Room k (A.deeper (envOfC "Kept.__init__" (defScope st) s.heap.objs.size f cdv)) → ∃ t, DS ⟨iniR C a dx, S, H, E⟩ (cxOf (L2N.CX P w) P w K mg base N "Kept.__init__" (defScope st) f cdv A outer s H E) st1 t (g1 a dx))
    (h2 : ∀ (a dx : Addr) (cdv : Value) (A : Around) (outer : List Env) (s : Shared) (S H : Hp) (E : XK), Room k (A.deeper (envOfC "Kept.__init__" (defScope st) s.heap.objs.size f cdv)) → ∃ t, DS ⟨iniR C a dx, S, H, E⟩ (cxOf (L2N.CX P w) P w K mg base N "Kept.__init__" (defScope st) f cdv A outer s H E) st2 t (g2 a dx))
    (h3 : ∀ (a dx : Addr) (cdv : Value) (A : Around) (outer : List Env) (s : Shared) (S H : Hp) (E : XK), Room k (A.deeper (envOfC "Kept.__init__" (defScope st) s.heap.objs.size f cdv)) → ∃ t, DE ⟨iniR C a dx, S, H, E⟩ (cxOf (L2N.CX P w) P w K mg base N "Kept.__init__" (defScope st) f cdv A outer s H E) e3 t (g3 a dx))
    (hp : ∀ (cdv : Value) (A : Around) (outer : List Env) (s : Shared) (H : Hp) (E : XK), PE (cxOf (L2N.CX P w) P w K mg base N "Kept.__init__" (defScope st) f cdv A outer s H E) (.Name "self" ps) (tVar 0))
    (hsw : ∀ (cdv : Value) (A : Around) (outer : List Env) (s : Shared) (H : Hp) (E : XK), swapsWith e3 (some (.Attribute (.Name "self" ps) "past" pl)) pos3.line (cxOf (L2N.CX P w) P w K mg base N "Kept.__init__" (defScope st) f cdv A outer s H E).env = pure false)
    (good : ∀ (a dx : Addr) (hd : PyData) (n : Int), okRow hd = some n → ∃ τ2 τ3 : Tau (iniR C a dx), (g1 a dx (entry N.length [.ref a] [hd] none) = .ok (.nx (entry N.length [.ref a] [hd] none)) ∧ g2 a dx (entry N.length [.ref a] [hd] none) = .ok (.nx τ2) ∧ τ2.γ = some hd ∧ g3 a dx τ2 = .ok (.fr [past0 n], τ3) ∧ τ3.γ = some hd ∧ τ3.sl[0]? = some (.rw (.ref a)))) :
    FnOk P w K mg base (L2N.CX P w) (k + 1) f fd ["self", "row"] (spInit C okRow) := by
  refine okN Fu Sc (fun vs H Q E h => ?_) (fun cdv A outer s H vs Q E hr h => ?_)
  · obtain ⟨a, dx, r, S, hd, n, rfl, _⟩ := h
    rfl
  · obtain ⟨a, dx, r, S, hd, n, rfl, ha, hx, sa, sx, sm, kr, hok, ret⟩ := h
    obtain ⟨t1, D1⟩ := h1 a dx cdv A outer s S H E hr
    obtain ⟨t2, D2⟩ := h2 a dx cdv A outer s S H E hr
    obtain ⟨t3, D3⟩ := h3 a dx cdv A outer s S H E hr
    obtain ⟨τ2, τ3, e1, e2, e4, e5, e6, e7⟩ := good a dx hd n hok
    have hl : ([V.ref a] ++ [r] : List V).length ≤ N.length := by
      have z : (N.take 2).length = 2 := by rw [show N.take 2 = (["self", "row"] : List Str) from Sc.pre]; rfl
      rw [List.length_take] at z
      show 2 ≤ N.length
      omega
    have R0' := entry_rel (R := iniR C a dx) (E := E) (pre := [.ref a]) (ws := [r]) (ds := [hd]) (γ := none) sm (fun b m => m.elim (fun z => z ▸ sa) fun z => z ▸ sx) ⟨none, ha, hx, fun v (z : (none : Option V) = some v) => (by cases z), fun _ => rfl⟩ (.cons (.inl kr) .nil) hl
    have P3 : PS (cxOf (L2N.CX P w) P w K mg base N "Kept.__init__" (defScope st) f cdv A outer s H E) (.Assign [.Attribute (.Name "self" ps) "past" pl] e3 pos3) (sFld K (tVar 0) t3 "past") := ps_fld (hp cdv A outer s H E) D3.pe (hsw cdv A outer s H E)
    refine ⟨_, by rw [hb]; exact pss_cons D1.pe (pss_cons D2.pe (pss_one P3)), ?_⟩
    refine D1.sd S H _ _ _ R0' ?_
    rw [e1]
    intro S1 H1 σ1 s1 R1
    refine D2.sd S1 H1 σ1 _ _ R1 ?_
    rw [e2]
    intro S2 H2 σ2 s2 R2
    refine D3.sd S2 H2 σ2 τ2 _ R2 ?_
    rw [e5]
    intro v S3 H3 G3 R3 o3 _
    obtain ⟨p, ws, rfl, q1, q2, q3, q4, q5, q6⟩ := o3
    obtain ⟨r', i1, i2, i3, i4⟩ := R3.res
    have hr' : ∃ u, r' = some u := by
      cases r' with
      | none =>
        have z := i4 rfl
        rw [e6] at z
        cases z
      | some u => exact ⟨u, rfl⟩
    obtain ⟨u, rfl⟩ := hr'
    obtain ⟨d, ed, ku⟩ := i3 u rfl
    rw [e6] at ed
    cases ed
    have npa : p ≠ a := fun z => q3 (.inl z)
    have npd : p ≠ dx := fun z => q3 (.inr z)
    have nda : dx ≠ a := ne_of i2 i1 (fun z => nomatch z)
    refine ⟨.ref a, R3.sl 0 _ e7, a, C, dx, _, rfl, i1, kc.c, kc.past, by show 1 < 1000; decide, ?_⟩
    have s3a : S3 a = none := R3.mS _ (.inl rfl)
    refine ret S3 _ p u ws R3.s0 (fun b o e => ?_) (fun b o n1 n2 e => ?_) (fun b o e => ?_) upd_same (by rw [upd_ne nda]; exact i2) q4 q2 (by rw [upd_ne npa]; exact q1) q6 ku
    · rw [upd_ne fun z => by rw [z, s3a] at e; cases e]
      exact R3.sub _ _ e
    · rw [upd_ne n1]
      exact R3.ent b o (fun m => m.elim n1 n2) e
    · rcases R3.new b o e with z | z
      · exact .inl z
      · exact .inr ⟨z, fun y => by rw [y, q2] at e; cases e⟩
end
end Kn
set_option Elab.async false
set_option linter.all false
set_option maxRecDepth 100000
set_option maxHeartbeats 4000000
namespace Kn
open PySem PySem.Spec L2
open PyProof.Rows hiding St
/-! ### an object's life within a block -/
def upK (H : Hp) (i : KA) : Hp := fun b => if b = i.a ∨ b = i.dx ∨ b = i.p then some (.own 0) else H b
theorem upK_in {H : Hp} {i : KA} {b : Addr} (h : b = i.a ∨ b = i.dx ∨ b = i.p) : upK H i b = some (.own 0) := if_pos h
theorem upK_out {H : Hp} {i : KA} {b : Addr} (h : ¬ (b = i.a ∨ b = i.dx ∨ b = i.p)) : upK H i b = H b := if_neg h
abbrev addB (B : Bs) (C : Addr) (i : KA) : Bs := ⟨prodR B.R (kepR C i), B.S0, upK B.H0 i, B.E⟩
/-- the three places were free -/
def FreeK (H : Hp) (i : KA) : Prop := H i.a = none ∧ H i.dx = none ∧ H i.p = none
theorem FreeK.off {H : Hp} {i : KA} (f : FreeK H i) {b : Addr} {o : HO} (e : H b = some o) : ¬ (b = i.a ∨ b = i.dx ∨ b = i.p) := by
  rintro (rfl | rfl | rfl)
  · rw [f.1] at e; cases e
  · rw [f.2.1] at e; cases e
  · rw [f.2.2] at e; cases e
section
variable {B : Bs} {C : Addr} {S H S' H' : Hp} {σ : L2.St} {τ : Tau B.R}
theorem rel_open (R : Rel B S H σ τ) {i : KA} (fr : FreeK H i) (s1 : Same S S') (s2 : Same S' H') (keep : ∀ b o, H b = some o → H' b = some o) (new : ∀ b o, S' b = some o → S b = some o ∨ (H b = none ∧ ¬ (b = i.a ∨ b = i.dx ∨ b = i.p)))
    {γ : PyData × List PyData} (hk : (kepR C i).ok γ S' H') : Rel (addB B C i) S' H' σ ⟨τ.sl, (τ.γ, γ)⟩ := by
  have f0 : FreeK B.H0 i := ⟨(R.hnone fr.1).2.1, (R.hnone fr.2.1).2.1, (R.hnone fr.2.2).2.1⟩
  have sN : ∀ b, (b = i.a ∨ b = i.dx ∨ b = i.p) → S' b = none := fun b hb => by
    cases e : S' b with
    | none => rfl
    | some o =>
      rcases new b o e with z | z
      · exact absurd hb (fr.off (R.sub _ _ z))
      · exact absurd hb z.2
  have mem : ∀ b, B.R.M b → ∃ o, H b = some o := fun b m => by
    cases e : H b with
    | none => exact absurd e (B.R.mem _ _ _ _ R.res m)
    | some o => exact ⟨o, rfl⟩
  have disj : ∀ b, B.R.M b → ¬ (b = i.a ∨ b = i.dx ∨ b = i.p) := fun b m => let ⟨o, e⟩ := mem b m; fr.off e
  have own' : ∀ (a : Addr) (vs : HO), H a = some vs → B.H0 a = none → S a = none → ¬ B.R.M a → upK B.H0 i a = none ∧ S' a = none ∧ ¬ (prodR B.R (kepR C i)).M a := fun a o e h0 sa m => by
    have n := fr.off e
    refine ⟨by rw [upK_out n]; exact h0, ?_, fun z => z.elim m n⟩
    cases q : S' a with
    | none => rfl
    | some u =>
      rcases new a u q with z | z
      · rw [sa] at z; cases z
      · rw [e] at z; cases z.1
  refine ⟨s2, fun b o n e => ?_, R.s0.trans s1, fun b o e => ?_, fun b m => ?_, R.len, fun j s e => ?_, R.dis, ⟨kept_by R.res s1 fun b _ o e => keep b o e, hk, disj⟩, fun b m => ?_⟩
  · have n2 : ¬ (b = i.a ∨ b = i.dx ∨ b = i.p) := fun z => n (.inr z)
    have e : upK B.H0 i b = some o := e
    rw [upK_out n2] at e
    exact keep b o (R.ent b o (fun z => n (.inl z)) e)
  · rcases new b o e with z | ⟨z, n⟩
    · rcases R.new b o z with y | y
      · exact .inl y
      · exact .inr (by show upK B.H0 i b = none; rw [upK_out (fr.off (R.sub _ _ z))]; exact y)
    · exact .inr (by show upK B.H0 i b = none; rw [upK_out n]; exact (R.hnone z).2.1)
  · rcases m with m | m
    · cases e : S' b with
      | none => rfl
      | some o =>
        rcases new b o e with z | z
        · rw [R.mS b m] at z; cases z
        · exact absurd z.1 (B.R.mem _ _ _ _ R.res m)
    · exact sN b m
  · have k := R.sl j s e
    cases s with
    | un => trivial
    | sh d => exact let ⟨v, ev, q⟩ := k; ⟨v, ev, q.mono s1⟩
    | ar d =>
      obtain ⟨v, ev, q⟩ := k
      refine ⟨v, ev, q.imp (fun z => z.mono s1) fun ⟨a, vs, ds, e1, e2, m, h0, kk⟩ => ⟨a, vs, ds, e1, e2, fun z => z.elim m (f0.off h0), ?_, kk.mono s1⟩⟩
      show upK B.H0 i a = _
      rw [upK_out (f0.off h0)]
      exact h0
    | ow ds =>
      obtain ⟨a, vs, ev, h1, h2, h3, h4, h5⟩ := k
      obtain ⟨q1, q2, q3⟩ := own' a _ h1 h2 h3 h4
      exact ⟨a, vs, ev, keep _ _ h1, q1, q2, q3, h5.mono s1⟩
    | od kvs =>
      obtain ⟨a, vs, ev, h1, h2, h3, h4, h5⟩ := k
      obtain ⟨q1, q2, q3⟩ := own' a _ h1 h2 h3 h4
      exact ⟨a, vs, ev, keep _ _ h1, q1, q2, q3, Paired.mapK s1 h5⟩
    | rw v => exact k
  · show upK B.H0 i b ≠ none
    by_cases z : b = i.a ∨ b = i.dx ∨ b = i.p
    · rw [upK_in z]
      exact fun y => nomatch y
    · rw [upK_out z]
      exact R.m0 b (m.elim id fun y => absurd y z)
theorem rel_close {i : KA} (f0 : FreeK B.H0 i) {τ' : Tau (prodR B.R (kepR C i))} (R : Rel (addB B C i) S H σ τ') : Rel B S H σ ⟨τ'.sl, τ'.γ.1⟩ := by
  have back : ∀ b, upK B.H0 i b = none → B.H0 b = none := fun b e => by
    by_cases z : b = i.a ∨ b = i.dx ∨ b = i.p
    · rw [upK_in z] at e
      cases e
    · rw [upK_out z] at e
      exact e
  refine ⟨R.sub, fun b o n e => R.ent b o (fun z => z.elim n (f0.off e)) (by show upK B.H0 i b = _; rw [upK_out (f0.off e)]; exact e), R.s0, fun b o e => (R.new b o e).imp id (back b), fun b m => R.mS b (.inl m), R.len, fun j s e => ?_, R.dis, R.res.1, fun b m => ?_⟩
  · have k := R.sl j s e
    cases s with
    | un => trivial
    | sh d => exact k
    | ar d =>
      obtain ⟨v, ev, q⟩ := k
      refine ⟨v, ev, q.imp id fun ⟨a, vs, ds, e1, e2, m, h0, kk⟩ => ⟨a, vs, ds, e1, e2, fun z => m (.inl z), ?_, kk⟩⟩
      have h0 : upK B.H0 i a = some (.lst vs) := h0
      by_cases z : a = i.a ∨ a = i.dx ∨ a = i.p
      · rw [upK_in z] at h0
        cases h0
      · rw [upK_out z] at h0
        exact h0
    | ow ds => exact let ⟨a, vs, ev, h1, h2, h3, h4, h5⟩ := k; ⟨a, vs, ev, h1, back a h2, h3, fun z => h4 (.inl z), h5⟩
    | od kvs => exact let ⟨a, vs, ev, h1, h2, h3, h4, h5⟩ := k; ⟨a, vs, ev, h1, back a h2, h3, fun z => h4 (.inl z), h5⟩
    | rw v => exact k
  · have z := R.m0 b (.inl m)
    have z : upK B.H0 i b ≠ none := z
    rw [upK_out (fun y => R.res.2.2 b m y)] at z
    exact z
/-- what __init__ is asked, and what goes on behind it -/
theorem make_in {okRow : PyData → Option Int} {Q : VK} {r : V} {hd : PyData} {n : Int} (R : Rel B S H σ τ) (kr : Dq S r hd) (ok : okRow hd = some n)
    (k : ∀ (i : KA) (S' H' : Hp), FreeK H i → Same S S' → (∀ b o, H b = some o → H' b = some o) → (∀ b o, S' b = some o → S b = some o ∨ H b = none) → Rel (addB B C i) S' H' σ ⟨τ.sl, (τ.γ, (hd, [past0 n]))⟩ → Q (.ref i.a) H') :
    ∀ x dx, H x = none → H dx = none → dx ≠ x → spInit C okRow (.ref x :: ([r] ++ [])) (upd (upd H dx (.own x)) x (.ins C dx [])) (fun v H2 => v = .non ∧ Q (.ref x) H2) E0 := by
  intro x dx hx hdx nd
  have n1 : ∀ b o, H b = some o → b ≠ x ∧ b ≠ dx := fun b o e => ⟨ne_of_none e hx, ne_of_none e hdx⟩
  have at1 : ∀ b, b ≠ x → b ≠ dx → upd (upd H dx (.own x)) x (.ins C dx []) b = H b := fun b a1 a2 => by rw [upd_ne a1, upd_ne a2]
  refine ⟨x, dx, r, S, hd, n, rfl, upd_same, by rw [upd_ne nd, upd_same], (R.hnone hx).1, (R.hnone hdx).1, fun b o e => ?_, kr, ok, fun S' H' p r' ws s1 s2 keep new ia id_ hp sp hp' kp kr' => ⟨rfl, ?_⟩⟩
  · obtain ⟨a1, a2⟩ := n1 b o (R.sub _ _ e)
    rw [at1 b a1 a2]
    exact R.sub _ _ e
  · have npx : p ≠ x := fun z => by rw [z, upd_same] at hp; cases hp
    have npd : p ≠ dx := fun z => by rw [z, upd_ne nd, upd_same] at hp; cases hp
    have hpH : H p = none := by rw [← at1 p npx npd]; exact hp
    have keep' : ∀ b o, H b = some o → H' b = some o := fun b o e => by
      obtain ⟨a1, a2⟩ := n1 b o e
      exact keep b o a1 a2 (by rw [at1 b a1 a2]; exact e)
    have fr : FreeK H ⟨x, dx, p⟩ := ⟨hx, hdx, hpH⟩
    have new' : ∀ b o, S' b = some o → S b = some o ∨ (H b = none ∧ ¬ (b = x ∨ b = dx ∨ b = p)) := fun b o e => by
      rcases new b o e with z | ⟨z, n2⟩
      · exact .inl z
      refine .inr ?_
      have b1 : b ≠ x := fun y => by rw [y, upd_same] at z; cases z
      have b2 : b ≠ dx := fun y => by rw [y, upd_ne nd, upd_same] at z; cases z
      refine ⟨by rw [← at1 b b1 b2]; exact z, ?_⟩
      rintro (y | y | y)
      · exact b1 y
      · exact b2 y
      · exact n2 y
    exact k ⟨x, dx, p⟩ S' H' fr s1 keep' (fun b o e => (new' b o e).imp id (·.1)) (rel_open R fr s1 s2 keep' new' ⟨r', ws, ia, id_, hp', kr', kp⟩)
end
/-! ### statements, by what they lead to -/
def Tri (B : Bs) (t : TS) (τ : Tau B.R) (N : Tau B.R → Prop) : Prop := ∀ S H σ (D : Ends), Rel B S H σ τ → (∀ S3 H3 σ3 τ3, Same S S3 → Rel B S3 H3 σ3 τ3 → N τ3 → D.nx σ3 H3) → t D σ H
section
variable {X : Cx} {B : Bs} {t u : TS} {τ τ1 : Tau B.R} {N N1 : Tau B.R → Prop}
theorem tri_of {st : Stmt} {g : DenS B.R} (D : DS B X st t g) (e : g τ = .ok (.nx τ1)) (n : N τ1) : Tri B t τ N := fun S H σ D' R k => D.sd S H σ τ _ R (by rw [e]; exact fun S' H' σ' sm R' => k S' H' σ' τ1 sm R' n)
theorem tri_ofs {sts : List Stmt} {g : DenS B.R} (D : DSs B X sts t g) (e : g τ = .ok (.nx τ1)) (n : N τ1) : Tri B t τ N := fun S H σ D' R k => D.sd S H σ τ _ R (by rw [e]; exact fun S' H' σ' sm R' => k S' H' σ' τ1 sm R' n)
theorem tri_seq (h1 : Tri B t τ N1) (h2 : ∀ τ1, N1 τ1 → Tri B u τ1 N) : Tri B (tSeq t u) τ N := fun S H σ D R k => h1 S H σ _ R fun S3 H3 σ3 τ3 sm R3 n => h2 τ3 n S3 H3 σ3 D R3 fun S4 H4 σ4 τ4 sm4 R4 n4 => k S4 H4 σ4 τ4 (sm.trans sm4) R4 n4
end
end Kn
set_option Elab.async false
set_option linter.all false
set_option maxRecDepth 100000
set_option maxHeartbeats 4000000
namespace Kn
open PySem PySem.Spec L2
open PyProof.Rows hiding St
/-! ### x == y, both of a class with an __eq__ of its own -/
def rEqO (C : Addr) (sp : Sp) : R2 := fun x y H Q => ∃ a b dx dy fs gs, x = .ref a ∧ y = .ref b ∧ H a = some (.ins C dx fs) ∧ H b = some (.ins C dy gs) ∧ sp [.ref a, .ref b] H (fun v H' => (∃ t, v = .bl t) ∧ Q v H') E0
theorem op_eqO {X : Cx} {C f : Addr} {fd : FuncData} {ps : List Str} {sp : Sp} {k : Nat} (F : FnOk X.prog X.w X.K X.mg X.base (L2N.CX X.prog X.w) k f fd ps sp) (hs : PySem.W.findIn X.K (.ref C) "__eq__" = some (some (.ref f))) (hf : PySem.W.isFn X.K (.ref f) = true) (hb : Binds X.K fd ps []) (hr : Room k X.A) : OpR X (compareOp .Eq) (rEqO C sp) := by
  intro pins s σ H x y u v Q I rx ry h
  obtain ⟨a, b, dx, dy, fs, gs, rfl, rfl, ha, hb2, hsp⟩ := h
  cases rx
  cases ry
  obtain ⟨_, O1, _⟩ := ins_get I.hok ha
  obtain ⟨_, O2, _⟩ := ins_get I.hok hb2
  obtain ⟨_, J1, _⟩ := O1.look
  obtain ⟨_, J2, _⟩ := O2.look
  obtain ⟨_, fr⟩ := I.fr
  show wpAny (model X.prog X.w) X.A (richCompare .Eq (.ref a) (.ref b)) (EP X pins σ Q) X.xe s
  refine PySem.W.cmp_K (op := .Eq) (tb := .ref C) hr.units0 fr I.ok.mod.kin J1 J2.type (by unfold PySem.W.notFirst; simp) hs hf ?_
  refine wpAny_mono (run_fn (us := [.ref a, .ref b]) (vs := [.ref a, .ref b]) F hr hb .nil passN I (.cons (show RelV (.ref a) (.ref a) from rfl) (.cons (show RelV (.ref b) (.ref b) from rfl) .nil)) (by rw [List.append_nil]; exact hsp)) (fun r s' z => ?_) fun _ _ e => e
  obtain ⟨w, H', I', rw', ⟨t, ew⟩, q⟩ := z
  subst ew
  cases rw'
  exact ⟨.bl t, H', I', rfl, q⟩
/-! ### len(x) -/
def rLenO (C : Addr) (sp : Sp) : List V → Hp → VK → Prop := fun xs H Q => ∃ a dx fs, xs = [.ref a] ∧ H a = some (.ins C dx fs) ∧ sp [.ref a] H (fun v H' => (∃ n : Int, v = .int n ∧ 0 ≤ n ∧ n < 2 ^ 63) ∧ Q v H') E0
theorem call_lenO {X : Cx} {C f : Addr} {fd : FuncData} {ps : List Str} {sp : Sp} {k : Nat} (F : FnOk X.prog X.w X.K X.mg X.base (L2N.CX X.prog X.w) k f fd ps sp) (hs : PySem.W.findIn X.K (.ref C) "__len__" = some (some (.ref f))) (hf : PySem.W.isFn X.K (.ref f) = true) (hb : Binds X.K fd ps []) (hr : Room (k + 1) X.A) : CallR X (.builtin "len") (rLenO C sp) := by
  intro pins s σ H xs us Q I r h
  obtain ⟨a, dx, fs, rfl, ha, hsp⟩ := h
  obtain ⟨u, rfl, ru⟩ := vals1 r
  obtain rfl : u = Value.ref a := ru
  obtain ⟨_, O1, _⟩ := ins_get I.hok ha
  obtain ⟨_, J1, _⟩ := O1.look
  obtain ⟨_, fr⟩ := I.fr
  refine PySem.W.len_K fr I.ok.mod.kin J1 hs hf ?_
  have hl : ([Value.ref a] ++ [] : List Value).length = ps.length := F.len _ _ _ _ hsp
  have e0 : Env0 X.prog X.w X.K X.mg X.base X.A.in1 X.stack s H := by
    have e := I.env0
    exact ⟨e.frames, e.mod, e.bs, e.bsz, e.funs, e.frf, e.hok, e.bare⟩
  refine wpAny_call (codeAny_mono (F.run X.A.in1 X.stack s H ⟨[Value.ref a], []⟩ ([Value.ref a] ++ []) [.ref a] _ E0 hr.in1 e0 (hb s [Value.ref a] I.kIn hl) (.cons (show RelV (.ref a) (.ref a) from rfl) .nil) hsp) fun r s' hq => ?_)
  cases r with
  | error e => exact passN pins σ H s e s' I hq
  | ok fl =>
    cases fl with
    | ret w =>
      obtain ⟨z, H', I', rz, ⟨n, ez, n0, n1⟩, q⟩ := I.after hq
      subst ez
      obtain ⟨tk, rfl⟩ := rz
      exact ⟨⟨n0, n1⟩, .int n, H', I'.tok _, ⟨_, rfl⟩, q⟩
    | next => exact False.elim hq
    | brk => exact False.elim hq
    | cont => exact False.elim hq
end Kn
set_option Elab.async false
set_option linter.all false
set_option maxRecDepth 100000
set_option maxHeartbeats 4000000
namespace Kn
open PySem PySem.Spec L2
open PyProof.Rows hiding St
/-! ### a def whose first arguments are things of ours -/
section
variable {ι : Type} {Rs : ι → Rsc}
def spRp (Rs : ι → Rsc) (pr : ι → List V) (F : RFn Rs) : Sp := fun vs H Q E => ∃ i, spG (Rs i) (pr i) (F i) vs H Q E
variable {P : Program} {w : World} {K : PySem.W.Frag} {mg : Str → Option Value} {base : Heap}
theorem fn_Rp {pr : ι → List V} {x qual : Str} {st : Stmt} {f : Addr} {fd : FuncData} {N ps : List Str} {k : Nat} (Fu : Fun K x qual st f fd) (Sc : FnScope N ps (defScope st)) {F : RFn Rs} (g : ∀ i, DenS (Rs i))
    (hlen : ∀ i γ ds r, F i γ ds = some r → (pr i).length + ds.length = ps.length)
    (hbody : ∀ (i : ι) (cdv : Value) (A : Around) (outer : List Env) (s : Shared) (S H : Hp) (E : XK), Room k (A.deeper (envOfC qual (defScope st) s.heap.objs.size f cdv)) →
      ∃ t, DSs ⟨Rs i, S, H, E⟩ (cxOf (L2N.CX P w) P w K mg base N qual (defScope st) f cdv A outer s H E) (defBody st) t (g i))
    (heq : ∀ i γ ds r, F i γ ds = some r → Gd (g i (entry N.length (pr i) ds γ)) r) : FnOk P w K mg base (L2N.CX P w) (k + 1) f fd ps (spRp Rs pr F) := by
  refine okN Fu Sc (fun vs H Q E h => ?_) (fun cdv A outer s H vs Q E hr h => ?_)
  · obtain ⟨i, ws, S, γ, ds, r, e0, _, _, _, ha, e, _⟩ := h
    rw [e0, ← hlen i γ ds r e, List.length_append, Paired.length ha]
  · obtain ⟨i, ws, S, γ, ds, r, e0, hS, hM, hok, ha, e, ret⟩ := h
    subst e0
    obtain ⟨t, D⟩ := hbody i cdv A outer s S H E hr
    have hl : (pr i ++ ws : List V).length ≤ N.length := by
      rw [List.length_append, Paired.length ha, hlen i γ ds r e]
      have : (N.take ps.length).length = ps.length := by rw [Sc.pre]
      rw [List.length_take] at this
      omega
    exact ⟨t, D.pe, run_body D hS hM hok ha hl (heq i γ ds r e) ret⟩
end
/-! ### __eq__ -/
abbrev pairK (C : Addr) (q : KA × KA) : Rsc := prodR (kepR C q.1) (kepR C q.2)
abbrev preK (q : KA × KA) : List V := [.ref q.1.a, .ref q.2.a]
abbrev EFn (C : Addr) := RFn (pairK C)
structure CalEq (C : Addr) (P : Program) (w : World) (K : PySem.W.Frag) (mg : Str → Option Value) (base : Heap) (k : Nat) (F : EFn C) : Prop where
  ex : ∃ (f : Addr) (fd : FuncData) (ps : List Str), FnOk P w K mg base (L2N.CX P w) k f fd ps (spRp (pairK C) preK F) ∧ PySem.W.findIn K (.ref C) "__eq__" = some (some (.ref f)) ∧ PySem.W.isFn K (.ref f) = true ∧ Binds K fd ps []
/-- C(..) -/
structure CalNew (C : Addr) (okRow : PyData → Option Int) (P : Program) (w : World) (K : PySem.W.Frag) (mg : Str → Option Value) (base : Heap) (x : Str) (k : Nat) : Prop where
  ex : ∃ (f : Addr) (fd : FuncData) (ps : List Str), FnOk P w K mg base (L2N.CX P w) k f fd ps (spInit C okRow) ∧ Mk K C f ∧ Binds K fd ps [] ∧ mg x = some (.ref C)
section
variable {X : Cx} {B : Bs} {C : Addr} {i j : KA} {p p2 pos : Pos} {x y : Str} {n n2 : Nat} {k : Nat}
def dIsK {R : Rsc} {C : Addr} {j : KA} (_ : Emb (kepR C j) R) (n : Nat) : Den R := atO n j fun τ => .ok (.sh (.bool true), τ)
theorem de_isK (em : Emb (kepR C j) B.R) (n : Nat) (ic : C8.InsC X.K C) (hgi : Gl X "isinstance") (hi : X.mg "isinstance" = none) (hg : Gl X y) (hm : X.mg y = some (.ref C)) (hN : X.N[n]? = some x := by rfl) (hv : Vis X.env.scope x := by first | exact Or.inl rfl | exact Or.inr (Or.inl rfl) | exact Or.inr (Or.inr rfl)) (hd : (x == ("__debug__" : Str)) = false := by decide) (hcd : (x == ("__classdict__" : Str)) = false := by decide) (hdy : (y == ("__debug__" : Str)) = false := by decide)
    (he : starEach [.Name x p, .Name y p2] X.env = (false, eval (.Name x p) X.env) :: starEach [.Name y p2] X.env := by rfl) (he2 : starEach [.Name y p2] X.env = (false, eval (.Name y p2) X.env) :: starEach [] X.env := by rfl) (hpl : (backTo pos (starEach [.Name y p2] X.env)).any (·.1) = false := by rfl) {pf : Pos} :
    DE B X (.Call (.Name "isinstance" pf) [.Name x p, .Name y p2] [] pos) (tCB (fun xs H Q => ∃ a dx fs, xs = [.ref a, .ref C] ∧ H a = some (.ins C dx fs) ∧ Q (.bl true) H) (tCons (tVar n) (tCons (tC (.ref C)) tNil))) (dIsK em n) := by
  refine ⟨pe_callB (C8.call_isC ic) hgi hi (by decide +kernel) (pa_cons (pe_var hN hv hd hcd) (pa_cons (de_glob (B := B) (v := .ref C) hg hm rfl hdy).pe pa_nil he2) he) (by decide) (by decide) he hpl, fun S H σ τ Q R q => ?_⟩
  obtain ⟨h1, _, q⟩ := atO_in R q
  obtain ⟨r, vs, e1, _⟩ := em.ok _ _ _ R.res
  exact ⟨.ref j.a, h1, j.a, j.dx, _, rfl, e1, q _ S H .refl R (Dq.bl _) frS⟩
/-- len(x), x an object -/
def dLenO {R : Rsc} {C : Addr} {i : KA} (em : Emb (kepR C i) R) (n : Nat) (F : MFn C) : Den R := atO n i fun τ => match F i (em.get τ.γ) [] with
  | some (.ok (.sh (.int m)) γ') => if 0 ≤ m ∧ m < 2 ^ 62 then .ok (.sh (.int m), ⟨τ.sl, em.put τ.γ γ'⟩) else .bad
  | _ => .bad
theorem de_lenO {F : MFn C} (em : Emb (kepR C i) B.R) (n : Nat) (c : CalM C X.prog X.w X.K X.mg X.base "__len__" k F) (hr : Room (k + 1) X.A) (hgl : Gl X "len") (hml : X.mg "len" = none) (hN : X.N[n]? = some x := by rfl) (hv : Vis X.env.scope x := by first | exact Or.inl rfl | exact Or.inr (Or.inl rfl) | exact Or.inr (Or.inr rfl)) (hd : (x == ("__debug__" : Str)) = false := by decide) (hcd : (x == ("__classdict__" : Str)) = false := by decide)
    (he : starEach [.Name x p] X.env = (false, eval (.Name x p) X.env) :: starEach [] X.env := by rfl) (hpl : (backTo pos (starEach [] X.env)).any (·.1) = false := by rfl) :
    DE B X (.Call (.Name "len" p2) [.Name x p] [] pos) (tCB (rLenO C (spR (kepR C) KA.a F)) (tCons (tVar n) tNil)) (dLenO em n F) := by
  obtain ⟨f, fd, ps, h, mt, b⟩ := c.ex
  refine ⟨pe_callB (call_lenO h mt.at_ mt.fn b hr) hgl hml PySem.boot_len (pa_cons (pe_var hN hv hd hcd) pa_nil he) (by decide) (by decide) he hpl, fun S H σ τ Q R q => ?_⟩
  obtain ⟨h1, _, q⟩ := atO_in R q
  obtain ⟨r, vs, e1, _⟩ := em.ok _ _ _ R.res
  refine ⟨.ref i.a, h1, i.a, i.dx, _, rfl, e1, ?_⟩
  split at q
  · rename_i m γ' ef
    by_cases z : 0 ≤ m ∧ m < 2 ^ 62
    · rw [if_pos z] at q
      refine ⟨i, [], S, em.get τ.γ, [], .ok (.sh (.int m)) γ', rfl, R.sub, fun b m => R.mS b (em.sub b m), em.ok _ _ _ R.res, .nil, ef, ?_⟩
      intro v S' H' a kv
      have a' := After.emb em R.res a
      cases kv
      exact ⟨⟨m, rfl, z.1, by omega⟩, q _ S' H' (Gro.grown R a') (R.grown a') (Dq.int m) frS⟩
    · rw [if_neg z] at q
      exact q.elim
  · exact q.elim
/-! ### == of two objects that have names -/
def dEqE {R : Rsc} {C : Addr} {i j : KA} (em : Emb (pairK C (i, j)) R) (n n2 : Nat) (F : EFn C) : Den R := atO n i (atO n2 j fun τ => match F (i, j) (em.get τ.γ) [] with
  | some (.ok (.sh (.bool b)) γ') => .ok (.sh (.bool b), ⟨τ.sl, em.put τ.γ γ'⟩)
  | _ => .bad)
/-- the call, resources at hand -/
theorem eq_in {F : EFn C} {b : Bool} {S H : Hp} {σ : L2.St} {τ : Tau B.R} {Q : VK} {γ' : (pairK C (i, j)).Γ} (em : Emb (pairK C (i, j)) B.R) (R : Rel B S H σ τ) (ef : F (i, j) (em.get τ.γ) [] = some (.ok (.sh (.bool b)) γ'))
    (k : ∀ S' H', After B.R S H (em.put τ.γ γ') S' H' → Q (.bl b) H') : rEqO C (spRp (pairK C) preK F) (.ref i.a) (.ref j.a) H Q := by
  obtain ⟨⟨r, vs, e1, _⟩, ⟨r2, vs2, e2, _⟩, _⟩ := em.ok _ _ _ R.res
  refine ⟨i.a, j.a, i.dx, j.dx, _, _, rfl, rfl, e1, e2, (i, j), [], S, em.get τ.γ, [], .ok (.sh (.bool b)) γ', rfl, R.sub, fun b m => R.mS b (em.sub b m), em.ok _ _ _ R.res, .nil, ef, ?_⟩
  intro v S' H' a kv
  cases kv
  exact ⟨⟨b, rfl⟩, k S' H' (After.emb em R.res a)⟩
theorem de_eqE {F : EFn C} (em : Emb (pairK C (i, j)) B.R) (n n2 : Nat) (c : CalEq C X.prog X.w X.K X.mg X.base k F) (hr : Room k X.A) (hN : X.N[n]? = some x := by rfl) (hv : Vis X.env.scope x := by first | exact Or.inl rfl | exact Or.inr (Or.inl rfl) | exact Or.inr (Or.inr rfl)) (hN2 : X.N[n2]? = some y := by rfl) (hv2 : Vis X.env.scope y := by first | exact Or.inl rfl | exact Or.inr (Or.inl rfl) | exact Or.inr (Or.inr rfl))
    (hd : (x == ("__debug__" : Str)) = false := by decide) (hcd : (x == ("__classdict__" : Str)) = false := by decide) (hd2 : (y == ("__debug__" : Str)) = false := by decide) (hcd2 : (y == ("__classdict__" : Str)) = false := by decide) (hm : behindInMarks .Eq (.Name y p2) = false := by exact nomark _) :
    DE B X (.Compare (.Name x p) [.Eq] [.Name y p2] pos) (tOp (rEqO C (spRp (pairK C) preK F)) (tVar n) (tVar n2)) (dEqE em n n2 F) := by
  obtain ⟨f, fd, ps, h, hs, hf, b⟩ := c.ex
  refine ⟨pe_cmpR (op_eqO h hs hf b hr) (pe_var hN hv hd hcd) (pe_var hN2 hv2 hd2 hcd2) hm, fun S H σ τ Q R q => ?_⟩
  obtain ⟨h1, _, q⟩ := atO_in R q
  obtain ⟨h2, _, q⟩ := atO_in R q
  refine ⟨.ref i.a, h1, .ref j.a, h2, ?_⟩
  split at q
  · rename_i b' γ' ef
    exact eq_in em R ef fun S' H' a => q _ S' H' (Gro.grown R a) (R.grown a) (Dq.bl b') frS
  · exact q.elim
/-! ### x == C(..) -/
def dEqNew {R : Rsc} {C : Addr} {i : KA} (okRow : PyData → Option Int) (em : Emb (kepR C i) R) (n : Nat) (F : EFn C) (g : DenA R) : Den R := atO n i fun τ => (g τ).bind fun p => match p.1 with
  | [.sh hd] => match okRow hd with
    | some m => match F (i, ⟨0, 0, 0⟩) (em.get p.2.γ, (hd, [past0 m])) [] with
      | some (.ok (.sh (.bool b)) γ') => .ok (.sh (.bool b), ⟨p.2.sl, em.put p.2.γ γ'.1⟩)
      | _ => .bad
    | none => .bad
  | _ => .bad
/-- an object that is gone again -/
theorem gro_new {S H S1 H1 S2 H2 : Hp} {σ : L2.St} {τ : Tau B.R} {γ2 : (addB B C i).R.Γ} (R : Rel B S H σ τ) (fr : FreeK H i) (s1 : Same S S1) (keep : ∀ b o, H b = some o → H1 b = some o) (new : ∀ b o, S1 b = some o → S b = some o ∨ H b = none)
    (a : After (addB B C i).R S1 H1 γ2 S2 H2) : Gro B σ S H τ.sl S2 H2 τ.sl := by
  have nM : ∀ b, H b = none → ¬ B.R.M b := fun b e m => B.R.mem _ _ _ _ R.res m e
  refine ⟨s1.trans a.s, fun b o n e => a.h b o (fun z => z.elim n (fr.off e)) (keep b o e), fun b o e => ?_, fun _ o => o⟩
  have key : S b = some o ∨ H b = none := by
    rcases a.n b o e with z | ⟨_, z⟩
    · exact new b o z
    · refine .inr ?_
      cases q : H b with
      | none => rfl
      | some u =>
        rw [keep b u q] at z
        cases z
  exact key.imp id fun z => ⟨nM b z, .inl z⟩
theorem de_eqNew {F : EFn C} {okRow : PyData → Option Int} {kn : Nat} {e : Expr} {es : List Expr} {t : TA} {ga : DenA B.R} {pc : Pos} (em : Emb (kepR C i) B.R) (n : Nat) (c : CalEq C X.prog X.w X.K X.mg X.base k F) (cn : CalNew C okRow X.prog X.w X.K X.mg X.base y kn) (hr : Room k X.A) (hrn : Room (kn + 1) X.A) (hg : Gl X y) (ha : DA B X (e :: es) t ga)
    (uni : ∀ (q : KA) γ, F (i, q) γ [] = F (i, ⟨0, 0, 0⟩) γ []) (hN : X.N[n]? = some x := by rfl) (hv : Vis X.env.scope x := by first | exact Or.inl rfl | exact Or.inr (Or.inl rfl) | exact Or.inr (Or.inr rfl))
    (hd : (x == ("__debug__" : Str)) = false := by decide) (hcd : (x == ("__classdict__" : Str)) = false := by decide) (hdy : (y == ("__debug__" : Str)) = false := by decide) (hm : behindInMarks .Eq (.Call (.Name y p2) (e :: es) [] pc) = false := by exact nomark _)
    (he : starEach (e :: es) X.env = (false, eval e X.env) :: starEach es X.env := by rfl) (hpl : (backTo pc (starEach es X.env)).any (·.1) = false := by rfl) :
    DE B X (.Compare (.Name x p) [.Eq] [.Call (.Name y p2) (e :: es) [] pc] pos) (tOp (rEqO C (spRp (pairK C) preK F)) (tVar n) (tMake C (spInit C okRow) [] E0 t)) (dEqNew okRow em n F ga) := by
  obtain ⟨f, fd, ps, h, hs, hf, b⟩ := c.ex
  obtain ⟨f2, fd2, ps2, h2, mk, b2, gm⟩ := cn.ex
  refine ⟨pe_cmpR (op_eqO h hs hf b hr) (pe_var hN hv hd hcd) (pe_make mk h2 hrn hg gm b2 .nil passN ha.pe hdy he hpl) hm, fun S H σ τ Q R q => ?_⟩
  obtain ⟨h1, _, q⟩ := atO_in R q
  refine ⟨.ref i.a, h1, ha.sd S H σ τ _ R (Sat.step (f := fun p => match p.1 with
  | [.sh hd] => match okRow hd with
    | some m => match F (i, ⟨0, 0, 0⟩) (em.get p.2.γ, (hd, [past0 m])) [] with
      | some (.ok (.sh (.bool b)) γ') => .ok (Val.sh (.bool b), ⟨p.2.sl, em.put p.2.γ γ'.1⟩)
      | _ => .bad
    | none => .bad
  | _ => .bad) q fun z τ1 vs S1 H1 _ G1 R1 o1 _ q1 => ?_)⟩
  split at q1
  · rename_i hd ez
    simp only at ez
    subst ez
    cases eo : okRow hd with
    | none => simp only [eo] at q1; exact q1.elim
    | some m =>
      simp only [eo] at q1
      match vs, o1 with
      | [r], .cons kr .nil =>
        refine make_in (C := C) (Q := fun y H2 => rEqO C (spRp (pairK C) preK F) (.ref i.a) y H2 Q) R1 kr eo fun q S2 H2 fr s2 keep new R2 => ?_
        split at q1
        · rename_i b' γ' ef
          have ef2 : F (i, q) ((Emb.lift em (kepR C q)).get (τ1.γ, (hd, [past0 m]))) [] = some (.ok (.sh (.bool b')) γ') := (uni q _).trans ef
          refine eq_in (B := addB B C q) (Emb.lift em (kepR C q)) R2 ef2 fun S3 H3 a => ?_
          have f0 : FreeK B.H0 q := ⟨(R1.hnone fr.1).2.1, (R1.hnone fr.2.1).2.1, (R1.hnone fr.2.2).2.1⟩
          exact q1 _ S3 H3 (gro_new R1 fr s2 keep new a) (rel_close f0 (R2.grown a)) (Dq.bl b') frS
        · exact q1.elim
  · exact q1.elim
end
end Kn
set_option Elab.async false
set_option linter.all false
set_option maxRecDepth 100000
set_option maxHeartbeats 4000000
namespace Kn
open PySem PySem.Spec L2
open PyProof.Rows hiding St
/-! ### objects are made, and the block goes on -/
section
variable {B : Bs} {C : Addr} {okRow : PyData → Option Int} {i j : Nat} {t1 t2 : TA} {tb : TE} {rest : TS} {ga : DenA B.R} {τ : Tau B.R} {hd hd2 : PyData} {n n2 : Int} {N : Tau B.R → Prop}
/-- x, y = C(..), e -/
theorem open1 {gb : ∀ q, Den (addB B C q).R} {val : Val} {s2 : Sl} {γ' : B.R.Γ} (ha : SndA B t1 ga) (ea : ga τ = .ok ([.sh hd], τ)) (ok : okRow hd = some n) (hb : ∀ q, SndE (addB B C q) tb (gb q))
    (eb : ∀ q, gb q ⟨τ.sl, (τ.γ, (hd, [past0 n]))⟩ = .ok (val, ⟨τ.sl, (γ', (hd, [past0 n]))⟩)) (es : val.slot = some s2) (hi : i < τ.sl.length) (hj : j < τ.sl.length)
    {S H : Hp} {σ : L2.St} {D : Ends} (R : Rel B S H σ τ)
    (k : ∀ (q : KA) (S3 H3 : Hp) (σ3 : L2.St), FreeK B.H0 q → Same S S3 → Rel (addB B C q) S3 H3 σ3 ⟨(τ.sl.set i (.rw (.ref q.a))).set j s2, (γ', (hd, [past0 n]))⟩ → D.nx σ3 H3) :
    tPar i j (tCons (tMake C (spInit C okRow) [] E0 t1) (tCons tb tNil)) D σ H := by
  refine ha S H σ τ _ R ?_
  rw [ea]
  intro vs S1 H1 G1 R1 o1 _
  match vs, o1 with
  | [r], .cons kr .nil =>
    refine make_in (C := C) (Q := fun x H2 => tCons tb tNil σ H2 fun ws H3 => ∃ v w, x :: ws = [v, w] ∧ D.nx ((σ.set i (some v)).set j (some w)) H3) R1 kr ok fun q S2 H2 fr s2' keep new R2 => ?_
    refine hb q S2 H2 σ _ _ R2 ?_
    rw [eb]
    intro w S3 H3 G3 R3 o3 f3
    refine ⟨.ref q.a, w, rfl, ?_⟩
    have f0 : FreeK B.H0 q := ⟨(R1.hnone fr.1).2.1, (R1.hnone fr.2.1).2.1, (R1.hnone fr.2.2).2.1⟩
    have R4 := R3.store (i := i) (v := .ref q.a) (val := .rw (.ref q.a)) rfl rfl hi
    have k2 : VOk (addB B C q) S3 H3 (σ.set i (some (.ref q.a))) (Tau.put ⟨τ.sl, (γ', (hd, [past0 n]))⟩ i (.rw (.ref q.a)) : Tau (addB B C q).R).sl w val := VOk.behind o3 fun o _ => by cases o
    have R5 := R4.store k2 es (by show j < (τ.sl.set i _).length; rw [List.length_set]; exact hj)
    exact k q S3 H3 _ f0 (G1.s.trans (s2'.trans G3.s)) R5
/-- x, y = C(..), C(..) -/
theorem open2 {ga2 : ∀ q, DenA (addB B C q).R} (ha : SndA B t1 ga) (ea : ga τ = .ok ([.sh hd], τ)) (ok : okRow hd = some n) (hb : ∀ q, SndA (addB B C q) t2 (ga2 q))
    (eb : ∀ q, ga2 q ⟨τ.sl, (τ.γ, (hd, [past0 n]))⟩ = .ok ([.sh hd2], ⟨τ.sl, (τ.γ, (hd, [past0 n]))⟩)) (ok2 : okRow hd2 = some n2) (hi : i < τ.sl.length) (hj : j < τ.sl.length)
    {S H : Hp} {σ : L2.St} {D : Ends} (R : Rel B S H σ τ)
    (k : ∀ (q q2 : KA) (S3 H3 : Hp) (σ3 : L2.St), Rel (addB (addB B C q) C q2) S3 H3 σ3 ⟨(τ.sl.set i (.rw (.ref q.a))).set j (.rw (.ref q2.a)), ((τ.γ, (hd, [past0 n])), (hd2, [past0 n2]))⟩ → D.nx σ3 H3) :
    tPar i j (tCons (tMake C (spInit C okRow) [] E0 t1) (tCons (tMake C (spInit C okRow) [] E0 t2) tNil)) D σ H := by
  refine ha S H σ τ _ R ?_
  rw [ea]
  intro vs S1 H1 G1 R1 o1 _
  match vs, o1 with
  | [r], .cons kr .nil =>
    refine make_in (C := C) (Q := fun x H2 => tCons (tMake C (spInit C okRow) [] E0 t2) tNil σ H2 fun ws H3 => ∃ v w, x :: ws = [v, w] ∧ D.nx ((σ.set i (some v)).set j (some w)) H3) R1 kr ok fun q S2 H2 fr s2' keep new R2 => ?_
    refine hb q S2 H2 σ _ _ R2 ?_
    rw [eb]
    intro vs2 S3 H3 G3 R3 o3 f3
    match vs2, o3 with
    | [r2], .cons kr2 .nil =>
      refine make_in (B := addB B C q) (C := C) (Q := fun y H2 => ∃ v w, V.ref q.a :: [y] = [v, w] ∧ D.nx ((σ.set i (some v)).set j (some w)) H2) R3 kr2 ok2 fun q2 S4 H4 fr4 s4 keep4 new4 R4 => ?_
      refine ⟨.ref q.a, .ref q2.a, rfl, ?_⟩
      have R5 := R4.store (i := i) (v := .ref q.a) (val := .rw (.ref q.a)) rfl rfl hi
      have R6 := R5.store (i := j) (v := .ref q2.a) (val := .rw (.ref q2.a)) rfl rfl (by show j < (τ.sl.set i _).length; rw [List.length_set]; exact hj)
      exact k q q2 S4 H4 _ R6
end
/-! ### statements that end in the answer True -/
def TriV (B : Bs) (t : TS) (τ : Tau B.R) : Prop := ∀ S H σ (D : Ends), Rel B S H σ τ → (∀ H', D.rt (.bl true) H') → t D σ H
section
variable {X : Cx} {B : Bs} {t u : TS} {τ τ1 : Tau B.R} {N1 : Tau B.R → Prop}
theorem triV_seq (h1 : Tri B t τ N1) (h2 : ∀ τ1, N1 τ1 → TriV B u τ1) : TriV B (tSeq t u) τ := fun S H σ D R k => h1 S H σ _ R fun S3 H3 σ3 τ3 sm R3 n => h2 τ3 n S3 H3 σ3 D R3 k
theorem triV_of {st : Stmt} {g : DenS B.R} (D : DS B X st t g) (e : g τ = .ok (.rt (.sh (.bool true)) τ1)) : TriV B t τ := fun S H σ D' R k => D.sd S H σ τ _ R (by
  rw [e]
  intro v S' H' σ' _ R' kv
  cases kv
  exact k H')
theorem triV_ofs {sts : List Stmt} {g : DenS B.R} (D : DSs B X sts t g) (e : g τ = .ok (.rt (.sh (.bool true)) τ1)) : TriV B t τ := fun S H σ D' R k => D.sd S H σ τ _ R (by
  rw [e]
  intro v S' H' σ' _ R' kv
  cases kv
  exact k H')
end
/-! ### the law -/
section
variable {P : Program} {w : World} {K : PySem.W.Frag} {mg : Str → Option Value} {base : Heap}
theorem fn_lawV {x qual : Str} {st : Stmt} {f : Addr} {fd : FuncData} {sc : Str} {N : List Str} {k : Nat} (Fu : Fun K x qual st f fd) (Sc : FnScope N [sc] (defScope st))
    (hbody : ∀ (p : Addr × List Int) (cdv : Value) (A : Around) (outer : List Env) (s : Shared) (S H : Hp) (E : XK), p.2.length ≤ 63 → Room k (A.deeper (envOfC qual (defScope st) s.heap.objs.size f cdv)) →
      ∃ t, PSs (cxOf (L2N.CX P w) P w K mg base N qual (defScope st) f cdv A outer s H E) (defBody st) t ∧ TriV ⟨scrR K p, S, H, E⟩ t (entry N.length [.ref p.1] [] ())) : FnOk P w K mg base (L2N.CX P w) (k + 1) f fd [sc] (spLaw K) := by
  refine okN Fu Sc (fun vs H Q E h => ?_) (fun cdv A outer s H vs Q E hr h => ?_)
  · obtain ⟨p, rfl, _⟩ := h
    rfl
  · obtain ⟨p, rfl, hq, hl, q⟩ := h
    obtain ⟨t, pe, T⟩ := hbody p cdv A outer s H H E hl hr
    have hl : ([V.ref p.1] ++ [] : List V).length ≤ N.length := by
      have : (N.take 1).length = 1 := by rw [show N.take 1 = [sc] from Sc.pre]; rfl
      rw [List.length_take] at this
      show 1 ≤ N.length
      omega
    exact ⟨t, pe, T H H _ _ (entry_rel (R := scrR K p) (pre := [.ref p.1]) (ws := []) (ds := []) (Same.refl _) (fun _ z => z.elim) hq .nil hl) q⟩
end
end Kn
set_option Elab.async false
set_option linter.all false
set_option maxRecDepth 100000
set_option maxHeartbeats 4000000
namespace Kn
open PySem PySem.Spec L2
open PyProof.Rows hiding St
/-! ### the law's loop over its bags, what its body leads to being told -/
section
variable {K : PySem.W.Frag}
theorem ds_bagsR {X : Cx} {p : Addr × List Int} {S0 H0 : Hp} {E : XK} {k ib : Nat} {x bg sc : Str} {lim : Int} {fp cp bp ap lp : Pos} {j : Nat} {body : List Stmt} {tb : TS} (n : Nat)
    (hl : p.2.length ≤ 63) (l1 : 1 ≤ lim) (l2 : lim ≤ 63) (hp : PassesOwn (model X.prog X.w) X.A X.env X.xe) (hc : X.calm = true) (c : CalBags X.prog X.w X.K X.mg X.base x k) (hr : Room k X.A) (hg : Gl X x) (hNd : X.N.Nodup) (hN : X.N.length = n)
    (hi : X.N[ib]? = some bg) (hx : Loc X.env.scope bg) (hf : X.fn bg = true ∨ X.env.scope.names.lookup bg = some .local) (h0 : X.N[0]? = some sc) (hv : Vis X.env.scope sc)
    (hb : PSs X body tb)
    (good : ∀ (ab : Addr) (d : List Int) (S H : Hp), isDraw d → Tri ⟨bagR ab, S, H, E⟩ tb (bagSlots n ib ab d) fun τ' => τ'.sl.length = n)
    (hK : X.K = K := by rfl)
    (hdb : (x == ("__debug__" : Str)) = false := by decide) (he : starEach [.Name sc ap, .Constant (.int lim) j lp] X.env = (false, eval (.Name sc ap) X.env) :: starEach [.Constant (.int lim) j lp] X.env := by rfl) (he2 : starEach [.Constant (.int lim) j lp] X.env = (false, eval (.Constant (.int lim) j lp) X.env) :: starEach [] X.env := by rfl)
    (hpl : (backTo cp (starEach [.Constant (.int lim) j lp] X.env)).any (·.1) = false := by rfl) (hd : (sc == ("__debug__" : Str)) = false := by decide) (hcd : (sc == ("__classdict__" : Str)) = false := by decide) :
    DS ⟨scrR K p, S0, H0, E⟩ X (.For (.Name bg bp) (.Call (.Name x fp) [.Name sc ap, .Constant (.int lim) j lp] [] cp) body [] pos) (tFor (iList K (tCall (spBags K) [] E0 (tCons (tVar 0) (tCons (tC (.int lim)) tNil)))) (gName ib) tb) (dBags p n) := by
  subst hK
  obtain ⟨f, fd, ps, hF, gm, kp, bnd⟩ := c.ex
  refine ⟨ps_for hp hc (pi_list (pe_call hF hr hg gm kp bnd .nil passN (pa_cons (pe_var h0 hv hd hcd) (pa_cons pe_int pa_nil he2) he) hdb he hpl)) (pg_name hNd hi hx hf) hb (by intro _; rfl), fun S H σ τ D R q => ?_⟩
  unfold dBags at q
  split at q
  · rename_i v es
    by_cases z : v = .ref p.1 ∧ τ.sl.length = n
    · rw [if_pos z] at q
      obtain ⟨rfl, hn⟩ := z
      have e0 : σ[0]? = some (some (.ref p.1)) := R.sl 0 _ es
      refine ⟨.ref p.1, e0, p, lim, S, rfl, R.sub, R.res, hl, l1, l2, fun D' abs drs S' H' aft hD bgs hdr => ?_⟩
      have R1 : Rel ⟨scrR X.K p, S0, H0, E⟩ S' H' σ ⟨τ.sl, ()⟩ := R.grown aft
      refine ⟨D', rfl, ⟨_, SqL.of hD⟩, for_it (walk_list (xs := abs.map V.ref)) (fun i σ' Hi => ∃ Si : Hp, σ'.length = σ.length ∧ Same S' Si ∧ Same Si Hi ∧ (∀ b o, H0 b = some o → Hi b = some o) ∧ (∀ b o, Si b = some o → S0 b = some o ∨ H0 b = none) ∧ Hi D' = some (.lst (abs.map V.ref)) ∧
        ∀ j ab, i ≤ j → abs[j]? = some ab → Hi ab = H' ab ∧ Si ab = none) ⟨S', rfl, Same.refl _, R1.sub, fun b o e => R1.ent b o (fun z => z) e, R1.new, hD, fun j ab _ e => ?_⟩ (fun i σ' Hi _ ⟨Si, _, _, _, _, _, e, _⟩ => SqL.of e) (fun i x σ1 Ha Hb hlt pv y => ?_) (fun σ1 Ha pv => ?_)⟩
      · obtain ⟨al, d, _, _, _, s, _⟩ := bgs.at_ j ab e
        exact ⟨rfl, s⟩
      · obtain ⟨Si, p1, p2, p3, p4, p5, p6, p7⟩ := pv
        obtain ⟨rfl, ex⟩ := y
        rw [List.getElem?_map] at ex
        obtain ⟨ab, ea, rfl⟩ := Option.map_eq_some_iff.mp ex
        obtain ⟨al, d, d1, d2, d3, d4, d5⟩ := bgs.at_ i ab ea
        obtain ⟨q1, q2⟩ := p7 i ab (Nat.le_refl _) ea
        have hg1 : Hb ab = some (.lst [.ref al, .int 0]) := q1.trans d2
        have hg2 : Si al = some (.lst (d.map V.int)) := p2 _ _ d3
        have hH0 : H0 ab = none := (R.hnone d5).2.1
        have hlen : (bagSlots n ib ab d).sl.length = n := by simp [bagSlots]
        have hσ : σ.length = n := R.len.trans hn
        have slo : ∀ (i' : Nat) (s : Sl), (bagSlots n ib ab d).sl[i']? = some s → s = .un ∨ (i' = ib ∧ s = .rw (.ref ab)) := fun i' s e => by
          have e : ((List.replicate n Sl.un).set ib (.rw (.ref ab)))[i']? = some s := e
          rw [List.getElem?_set] at e
          by_cases z : ib = i'
          · rw [if_pos z] at e
            split at e
            · exact .inr ⟨z.symm, (Option.some.inj e).symm⟩
            · cases e
          · rw [if_neg z] at e
            obtain ⟨h1, h2⟩ := List.getElem?_eq_some_iff.mp e
            rw [List.getElem_replicate] at h2
            exact .inl h2.symm
        have hib : ib < σ1.length := by
          rw [p1, hσ, ← hN]
          exact (List.getElem?_eq_some_iff.mp hi).1
        have R2 : Rel ⟨bagR ab, Si, Hb, E⟩ Si Hb (σ1.set ib (some (.ref ab))) (bagSlots n ib ab d) := by
          refine ⟨p3, fun _ _ _ e => e, Same.refl _, fun _ _ e => .inl e, fun b m => ?_, by rw [List.length_set, p1, hσ, hlen], fun i' s e => ?_, fun i' j' s s' b e1 e2 o1 o2 _ _ => ?_, ⟨al, hg1, hg2⟩, fun b m => ?_⟩
          · have m : b = ab := m
            subst m
            exact q2
          · rcases slo i' s e with rfl | ⟨rfl, rfl⟩
            · trivial
            · show (σ1.set i' (some (V.ref ab)))[i']? = some (some (V.ref ab))
              rw [List.getElem?_set_self hib]
          · rcases slo i' s e1 with rfl | ⟨rfl, rfl⟩ <;> cases o1
          · have m : b = ab := m
            subst m
            show Hb b ≠ none
            rw [hg1]
            exact fun z => nomatch z
        refine good ab d Si Hb (hdr d (List.mem_of_getElem? d1)) Si Hb _ _ R2 fun S3 H3 σ3 τ' s3 r3 g2 => ?_
        refine ⟨S3, ?_, p2.trans s3, r3.sub, fun b o e => ?_, fun b o e => ?_, ?_, fun j' ab' hj e => ?_⟩
        · rw [r3.len, g2, ← hσ]
        · by_cases z : b = ab
          · subst z
            rw [hH0] at e
            cases e
          · exact r3.ent b o z (p4 b o e)
        · rcases r3.new b o e with e | e
          · exact p5 b o e
          · right
            have e : Hb b = none := e
            cases q : H0 b with
            | none => rfl
            | some u =>
              rw [p4 b u q] at e
              cases e
        · refine r3.ent _ _ (fun z => ?_) p6
          have z : D' = ab := z
          subst z
          rw [p6] at hg1
          have e2 := HO.lst.inj (Option.some.inj hg1)
          have c1 : (abs.map V.ref)[1]? = some (V.int 0) := by
            rw [e2]
            rfl
          rw [List.getElem?_map] at c1
          obtain ⟨_, _, c2⟩ := Option.map_eq_some_iff.mp c1
          cases c2
        · have ne : ab' ≠ ab := fun z => by
            subst z
            obtain ⟨h1, h2⟩ := List.getElem?_eq_some_iff.mp ea
            obtain ⟨h3, h4⟩ := List.getElem?_eq_some_iff.mp e
            have := (List.getElem_inj (h₀ := h1) (h₁ := h3) bgs.nd).mp (h2.trans h4.symm)
            omega
          obtain ⟨r1, r2⟩ := p7 j' ab' (by omega) e
          obtain ⟨al', d', _, x2, _, _, _⟩ := bgs.at_ j' ab' e
          have x3 : Hb ab' = some (.lst [.ref al', .int 0]) := r1.trans x2
          refine ⟨(r3.ent _ _ ne x3).trans x3.symm |>.trans r1, ?_⟩
          cases q : S3 ab' with
          | none => rfl
          | some u =>
            rcases r3.new ab' u q with e | e
            · have e : Si ab' = some u := e
              rw [r2] at e
              cases e
            · have e : Hb ab' = none := e
              rw [x3] at e
              cases e
      · obtain ⟨Si, p1, p2, p3, p4, p5, p6, p7⟩ := pv
        refine q Si Ha σ1 (aft.s.trans p2) ⟨p3, fun b o _ e => p4 b o e, R.s0.trans (aft.s.trans p2), p5, fun b m => m.elim, ?_, fun i' s e => ?_, fun i' j' s s' b e1 e2 o1 o2 _ _ => ?_, p2.seq aft.ok, fun b m => m.elim⟩
        · show σ1.length = (List.replicate n Sl.un).length
          rw [p1, List.length_replicate]
          exact R.len.trans hn
        · obtain ⟨h1, h2⟩ := List.getElem?_eq_some_iff.mp e
          have h2 : (List.replicate n Sl.un)[i']'h1 = s := h2
          rw [List.getElem_replicate] at h2
          subst h2
          trivial
        · obtain ⟨h1, h2⟩ := List.getElem?_eq_some_iff.mp e1
          have h2 : (List.replicate n Sl.un)[i']'h1 = s := h2
          rw [List.getElem_replicate] at h2
          subst h2
          cases o1
    · rw [if_neg z] at q
      exact q.elim
  · exact q.elim
end
end Kn
set_option Elab.async false
set_option linter.all false
set_option maxRecDepth 100000
set_option maxHeartbeats 4000000
namespace Kn
open PySem PySem.Spec L2
open PyProof.Rows hiding St
/-! ### C(..) == C(..) -/
section
variable {X : Cx} {B : Bs} {C : Addr} {i j : KA} {p p2 pos : Pos} {x y : Str} {n n2 : Nat} {k : Nat}
theorem gro_close {S H S2 H2 S3 H3 : Hp} {σ : L2.St} {τ : Tau B.R} (R : Rel B S H σ τ) (fr : FreeK H i) (s1 : Same S S2) (keep : ∀ b o, H b = some o → H2 b = some o) (new : ∀ b o, S2 b = some o → S b = some o ∨ H b = none)
    (G : Gro (addB B C i) σ S2 H2 τ.sl S3 H3 τ.sl) : Gro B σ S H τ.sl S3 H3 τ.sl := by
  have nM : ∀ b, H b = none → ¬ B.R.M b := fun b e m => B.R.mem _ _ _ _ R.res m e
  refine ⟨s1.trans G.s, fun b o n e => G.h b o (fun z => z.elim n (fr.off e)) (keep b o e), fun b o e => ?_, fun _ o => o⟩
  rcases G.n b o e with z | ⟨m, z | z⟩
  · exact (new b o z).imp id fun z => ⟨nM b z, .inl z⟩
  · refine .inr ⟨fun y => m (.inl y), .inl ?_⟩
    cases q : H b with
    | none => rfl
    | some u =>
      rw [keep b u q] at z
      cases z
  · exact .inr ⟨fun y => m (.inl y), .inr z⟩
def dEqNN {R : Rsc} (b : Bool) (g : DenA R) : Den R := fun τ => (g τ).bind fun p => .ok (.sh (.bool b), p.2)
theorem de_eqNN {F : EFn C} {okRow : PyData → Option Int} {kn : Nat} {e e2 : Expr} {es es2 : List Expr} {t t2 : TA} {ga : DenA B.R} {ga2 : ∀ q, DenA (addB B C q).R} {pc pc2 : Pos} {b : Bool} {hd hd2 : PyData} {m m2 : Int} (c : CalEq C X.prog X.w X.K X.mg X.base k F) (cn : CalNew C okRow X.prog X.w X.K X.mg X.base y kn) (hr : Room k X.A) (hrn : Room (kn + 1) X.A) (hg : Gl X y)
    (ha : DA B X (e :: es) t ga) (ea : ∀ τ vals τ', ga τ = .ok (vals, τ') → vals = [.sh hd]) (ok : okRow hd = some m)
    (ha2 : ∀ q, DA (addB B C q) X (e2 :: es2) t2 (ga2 q)) (ea2 : ∀ q τ, ga2 q τ = .ok ([.sh hd2], τ)) (ok2 : okRow hd2 = some m2)
    (ef : ∀ q, ∃ γ', F q ((hd, [past0 m]), (hd2, [past0 m2])) [] = some (.ok (.sh (.bool b)) γ'))
    (hdy : (y == ("__debug__" : Str)) = false := by decide) (hm : behindInMarks .Eq (.Call (.Name y p2) (e2 :: es2) [] pc2) = false := by exact nomark _)
    (he : starEach (e :: es) X.env = (false, eval e X.env) :: starEach es X.env := by rfl) (hpl : (backTo pc (starEach es X.env)).any (·.1) = false := by rfl)
    (he2 : starEach (e2 :: es2) X.env = (false, eval e2 X.env) :: starEach es2 X.env := by rfl) (hpl2 : (backTo pc2 (starEach es2 X.env)).any (·.1) = false := by rfl) :
    DE B X (.Compare (.Call (.Name y p) (e :: es) [] pc) [.Eq] [.Call (.Name y p2) (e2 :: es2) [] pc2] pos) (tOp (rEqO C (spRp (pairK C) preK F)) (tMake C (spInit C okRow) [] E0 t) (tMake C (spInit C okRow) [] E0 t2)) (dEqNN b ga) := by
  obtain ⟨f, fd, ps, h, hs, hf, bn⟩ := c.ex
  obtain ⟨f2, fd2, ps2, h2, mk, b2, gm⟩ := cn.ex
  refine ⟨pe_cmpR (op_eqO h hs hf bn hr) (pe_make mk h2 hrn hg gm b2 .nil passN ha.pe hdy he hpl) (pe_make mk h2 hrn hg gm b2 .nil passN (ha2 ⟨0, 0, 0⟩).pe hdy he2 hpl2) hm, fun S H σ τ Q R q => ?_⟩
  refine ha.sd S H σ τ _ R (Sat.step (f := fun p => .ok (Val.sh (.bool b), p.2)) q fun z τ1 vs S1 H1 ez G1 R1 o1 _ q1 => ?_)
  have e0 := ea _ _ _ ez
  subst e0
  match vs, o1 with
  | [r], .cons kr .nil =>
    refine make_in (C := C) (Q := fun x H2 => tMake C (spInit C okRow) [] E0 t2 σ H2 fun y H3 => rEqO C (spRp (pairK C) preK F) x y H3 Q) R1 kr ok fun q S2 H2 fr s2 keep new R2 => ?_
    refine (ha2 q).sd S2 H2 σ _ _ R2 ?_
    rw [ea2]
    intro vs2 S3 H3 G3 R3 o3 f3
    match vs2, o3 with
    | [r2], .cons kr2 .nil =>
      refine make_in (B := addB B C q) (C := C) (Q := fun y H3 => rEqO C (spRp (pairK C) preK F) (.ref q.a) y H3 Q) R3 kr2 ok2 fun q2 S4 H4 fr4 s4 keep4 new4 R4 => ?_
      obtain ⟨γ', e5⟩ := ef (q, q2)
      refine eq_in (B := addB (addB B C q) C q2) (i := q) (j := q2) (Emb.lift (Emb.snd B.R (kepR C q)) (kepR C q2)) R4 e5 fun S5 H5 a => ?_
      have f0 : FreeK B.H0 q := ⟨(R1.hnone fr.1).2.1, (R1.hnone fr.2.1).2.1, (R1.hnone fr.2.2).2.1⟩
      have f1 : FreeK (addB B C q).H0 q2 := ⟨(R3.hnone fr4.1).2.1, (R3.hnone fr4.2.1).2.1, (R3.hnone fr4.2.2).2.1⟩
      have R5 := rel_close f0 (rel_close f1 (R4.grown a))
      have g5 : Gro (addB B C q) σ S3 H3 τ1.sl S5 H5 τ1.sl := gro_close R3 fr4 s4 keep4 new4 (Gro.grown R4 a)
      have g6 : Gro B σ S1 H1 τ1.sl S5 H5 τ1.sl := gro_close R1 fr s2 keep new (G3.trans g5)
      exact q1 _ S5 H5 g6 R5 (Dq.bl b) frS
end
end Kn
set_option Elab.async false
set_option linter.all false
set_option maxRecDepth 100000
set_option maxHeartbeats 4000000
namespace Kn
open PySem PySem.Spec L2
open PyProof.Rows hiding St
/-! ### statements that make objects -/
section
variable {X : Cx} {C : Addr} {okRow : PyData → Option Int} {i j kn : Nat} {x y z : Str} {px py pt pos pc pc2 pz pz2 : Pos} {kt k2 pt2} {e e2 b : Expr} {es es2 : List Expr} {t1 t2 : TA} {tb : TE}
theorem mk1 {ga : ∀ B : Bs, DenA B.R} {gb : ∀ B : Bs, Den B.R} (cn : CalNew C okRow X.prog X.w X.K X.mg X.base z kn) (hrn : Room (kn + 1) X.A) (hg : Gl X z) (ha : ∀ B : Bs, DA B X (e :: es) t1 (ga B)) (hb : ∀ B : Bs, DE B X b tb (gb B)) (hc : X.calm = true) (hN : X.N.Nodup) (hi : X.N[i]? = some x) (hj : X.N[j]? = some y) (hij : i ≠ j)
    (hx : X.env.scope.names.lookup x = some .local) (hy : X.env.scope.names.lookup y = some .local) (hdy : (z == ("__debug__" : Str)) = false := by decide)
    (he : starEach (e :: es) X.env = (false, eval e X.env) :: starEach es X.env := by rfl) (hpl : (backTo pc (starEach es X.env)).any (·.1) = false := by rfl)
    (hw : swappedStores [.Tuple [.Name x px, .Name y py] kt pt] (.Tuple [.Call (.Name z pz) (e :: es) [] pc, b] k2 pt2) X.env = pure (some [x, y]) := by rfl)
    (hs : swapsWithSole [.Tuple [.Name x px, .Name y py] kt pt] (.Tuple [.Call (.Name z pz) (e :: es) [] pc, b] k2 pt2) pos.line X.env = pure false := by rfl)
    (s1 : starEach [.Call (.Name z pz) (e :: es) [] pc, b] X.env = (false, eval (.Call (.Name z pz) (e :: es) [] pc) X.env) :: starEach [b] X.env := by rfl) (s2 : starEach [b] X.env = (false, eval b X.env) :: starEach [] X.env := by rfl) :
    PS X (.Assign [.Tuple [.Name x px, .Name y py] kt pt] (.Tuple [.Call (.Name z pz) (e :: es) [] pc, b] k2 pt2) pos) (tPar i j (tCons (tMake C (spInit C okRow) [] E0 t1) (tCons tb tNil))) ∧ (∀ B : Bs, SndA B t1 (ga B)) ∧ (∀ B : Bs, SndE B tb (gb B)) := by
  obtain ⟨f2, fd2, ps2, h2, mk, b2, gm⟩ := cn.ex
  exact ⟨ps_par hc hN hi hj hij hx hy (pa_cons (pe_make mk h2 hrn hg gm b2 .nil passN (ha ⟨R0, fun _ => none, fun _ => none, E0⟩).pe hdy he hpl) (pa_cons (hb ⟨R0, fun _ => none, fun _ => none, E0⟩).pe pa_nil s2) s1) hw hs, fun B => (ha B).sd, fun B => (hb B).sd⟩
abbrev tMk1U (K : PySem.W.Frag) (C : Addr) (okRow : PyData → Option Int) (i j : Nat) (t1 : TA) (tb : TE) : TS := tAsg (tTup (tCons (tMake C (spInit C okRow) [] E0 t1) (tCons tb tNil))) (gTup K 2 (gCons (gName i) (gCons (gName j) gNil)))
/-- as mk1, where a name is held in a cell: the pair is built -/
theorem mk1U {ga : ∀ B : Bs, DenA B.R} {gb : ∀ B : Bs, Den B.R} (cn : CalNew C okRow X.prog X.w X.K X.mg X.base z kn) (hrn : Room (kn + 1) X.A) (hg : Gl X z) (ha : ∀ B : Bs, DA B X (e :: es) t1 (ga B)) (hb : ∀ B : Bs, DE B X b tb (gb B)) (hc : X.calm = true) (hN : X.N.Nodup) (hi : X.N[i]? = some x) (hj : X.N[j]? = some y)
    (hx : Loc X.env.scope x) (hfx : X.fn x = true ∨ X.env.scope.names.lookup x = some .local) (hy : Loc X.env.scope y) (hfy : X.fn y = true ∨ X.env.scope.names.lookup y = some .local) (hdy : (z == ("__debug__" : Str)) = false := by decide)
    (he : starEach (e :: es) X.env = (false, eval e X.env) :: starEach es X.env := by rfl) (hpl : (backTo pc (starEach es X.env)).any (·.1) = false := by rfl)
    (hw : swappedStores [.Tuple [.Name x px, .Name y py] kt pt] (.Tuple [.Call (.Name z pz) (e :: es) [] pc, b] k2 pt2) X.env = pure none := by rfl)
    (hs : swapsWithSole [.Tuple [.Name x px, .Name y py] kt pt] (.Tuple [.Call (.Name z pz) (e :: es) [] pc, b] k2 pt2) pos.line X.env = pure false := by rfl)
    (s1 : starEach [.Call (.Name z pz) (e :: es) [] pc, b] X.env = (false, eval (.Call (.Name z pz) (e :: es) [] pc) X.env) :: starEach [b] X.env := by rfl) (s2 : starEach [b] X.env = (false, eval b X.env) :: starEach [] X.env := by rfl) :
    PS X (.Assign [.Tuple [.Name x px, .Name y py] kt pt] (.Tuple [.Call (.Name z pz) (e :: es) [] pc, b] k2 pt2) pos) (tMk1U X.K C okRow i j t1 tb) ∧ (∀ B : Bs, SndA B t1 (ga B)) ∧ (∀ B : Bs, SndE B tb (gb B)) := by
  obtain ⟨f2, fd2, ps2, h2, mk, b2, gm⟩ := cn.ex
  exact ⟨ps_asg (pe_tup (pa_cons (pe_make mk h2 hrn hg gm b2 .nil passN (ha ⟨R0, fun _ => none, fun _ => none, E0⟩).pe hdy he hpl) (pa_cons (hb ⟨R0, fun _ => none, fun _ => none, E0⟩).pe pa_nil s2) s1)) (pg_tup hc (pgs_cons (pg_name hN hi hx hfx) (pgs_cons (pg_name hN hj hy hfy) pgs_nil))) hs hw, fun B => (ha B).sd, fun B => (hb B).sd⟩
theorem mk2 {ga ga2 : ∀ B : Bs, DenA B.R} (cn : CalNew C okRow X.prog X.w X.K X.mg X.base z kn) (hrn : Room (kn + 1) X.A) (hg : Gl X z) (ha : ∀ B : Bs, DA B X (e :: es) t1 (ga B)) (hb : ∀ B : Bs, DA B X (e2 :: es2) t2 (ga2 B)) (hc : X.calm = true) (hN : X.N.Nodup) (hi : X.N[i]? = some x) (hj : X.N[j]? = some y) (hij : i ≠ j)
    (hx : X.env.scope.names.lookup x = some .local) (hy : X.env.scope.names.lookup y = some .local) (hdy : (z == ("__debug__" : Str)) = false := by decide)
    (he : starEach (e :: es) X.env = (false, eval e X.env) :: starEach es X.env := by rfl) (hpl : (backTo pc (starEach es X.env)).any (·.1) = false := by rfl)
    (he2 : starEach (e2 :: es2) X.env = (false, eval e2 X.env) :: starEach es2 X.env := by rfl) (hpl2 : (backTo pc2 (starEach es2 X.env)).any (·.1) = false := by rfl)
    (hw : swappedStores [.Tuple [.Name x px, .Name y py] kt pt] (.Tuple [.Call (.Name z pz) (e :: es) [] pc, .Call (.Name z pz2) (e2 :: es2) [] pc2] k2 pt2) X.env = pure (some [x, y]) := by rfl)
    (hs : swapsWithSole [.Tuple [.Name x px, .Name y py] kt pt] (.Tuple [.Call (.Name z pz) (e :: es) [] pc, .Call (.Name z pz2) (e2 :: es2) [] pc2] k2 pt2) pos.line X.env = pure false := by rfl)
    (s1 : starEach [.Call (.Name z pz) (e :: es) [] pc, .Call (.Name z pz2) (e2 :: es2) [] pc2] X.env = (false, eval (.Call (.Name z pz) (e :: es) [] pc) X.env) :: starEach [.Call (.Name z pz2) (e2 :: es2) [] pc2] X.env := by rfl) (s2 : starEach [.Call (.Name z pz2) (e2 :: es2) [] pc2] X.env = (false, eval (.Call (.Name z pz2) (e2 :: es2) [] pc2) X.env) :: starEach [] X.env := by rfl) :
    PS X (.Assign [.Tuple [.Name x px, .Name y py] kt pt] (.Tuple [.Call (.Name z pz) (e :: es) [] pc, .Call (.Name z pz2) (e2 :: es2) [] pc2] k2 pt2) pos) (tPar i j (tCons (tMake C (spInit C okRow) [] E0 t1) (tCons (tMake C (spInit C okRow) [] E0 t2) tNil))) ∧ (∀ B : Bs, SndA B t1 (ga B)) ∧ (∀ B : Bs, SndA B t2 (ga2 B)) := by
  obtain ⟨f2, fd2, ps2, h2, mk, b2, gm⟩ := cn.ex
  exact ⟨ps_par hc hN hi hj hij hx hy (pa_cons (pe_make mk h2 hrn hg gm b2 .nil passN (ha ⟨R0, fun _ => none, fun _ => none, E0⟩).pe hdy he hpl) (pa_cons (pe_make mk h2 hrn hg gm b2 .nil passN (hb ⟨R0, fun _ => none, fun _ => none, E0⟩).pe hdy he2 hpl2) pa_nil s2) s1) hw hs, fun B => (ha B).sd, fun B => (hb B).sd⟩
end
section
variable {B : Bs} {X : Cx} {C : Addr} {okRow : PyData → Option Int} {i j n : Nat} {t1 t2 : TA} {tb : TE} {rest : TS} {sts : List Stmt} {ga : DenA B.R} {τ : Tau B.R} {hd hd2 : PyData} {m m2 : Int}
/-- an object's block: made, used, gone -/
theorem tri_open1 {gb : ∀ q, Den (addB B C q).R} {gr : ∀ q, DenS (addB B C q).R} {val : Val} {s2 : Sl} {γ' : B.R.Γ} (ha : SndA B t1 ga) (ea : ga τ = .ok ([.sh hd], τ)) (ok : okRow hd = some m) (hb : ∀ q, SndE (addB B C q) tb (gb q))
    (eb : ∀ q, gb q ⟨τ.sl, (τ.γ, (hd, [past0 m]))⟩ = .ok (val, ⟨τ.sl, (γ', (hd, [past0 m]))⟩)) (es : val.slot = some s2) (hi : i < τ.sl.length) (hj : j < τ.sl.length)
    (D : ∀ q, DSs (addB B C q) X sts rest (gr q)) (er : ∀ q : KA, ∃ τ4, gr q ⟨(τ.sl.set i (.rw (.ref q.a))).set j s2, (γ', (hd, [past0 m]))⟩ = .ok (.nx τ4) ∧ τ4.sl.length = n) :
    Tri B (tSeq (tPar i j (tCons (tMake C (spInit C okRow) [] E0 t1) (tCons tb tNil))) rest) τ fun τ' => τ'.sl.length = n := fun S H σ D' R k => by
  refine open1 (D := { D' with nx := rest D' }) ha ea ok hb eb es hi hj R fun q S3 H3 σ3 f0 sm R3 => ?_
  obtain ⟨τ4, e4, l4⟩ := er q
  refine (D q).sd S3 H3 σ3 _ D' R3 ?_
  rw [e4]
  exact fun S4 H4 σ4 sm4 R4 => k S4 H4 σ4 ⟨τ4.sl, τ4.γ.1⟩ (sm.trans sm4) (rel_close f0 R4) l4
theorem open1U {K : PySem.W.Frag} {gb : ∀ q, Den (addB B C q).R} {val : Val} {s2 : Sl} {γ' : B.R.Γ} (ha : SndA B t1 ga) (ea : ga τ = .ok ([.sh hd], τ)) (ok : okRow hd = some m) (hb : ∀ q, SndE (addB B C q) tb (gb q))
    (eb : ∀ q, gb q ⟨τ.sl, (τ.γ, (hd, [past0 m]))⟩ = .ok (val, ⟨τ.sl, (γ', (hd, [past0 m]))⟩)) (es : val.slot = some s2) (hi : i < τ.sl.length) (hj : j < τ.sl.length)
    {S H : Hp} {σ : L2.St} {D : Ends} (R : Rel B S H σ τ)
    (k : ∀ (q : KA) (S3 H3 : Hp) (σ3 : L2.St), FreeK B.H0 q → Same S S3 → Rel (addB B C q) S3 H3 σ3 ⟨(τ.sl.set i (.rw (.ref q.a))).set j s2, (γ', (hd, [past0 m]))⟩ → D.nx σ3 H3) :
    tMk1U K C okRow i j t1 tb D σ H := by
  refine ha S H σ τ _ R ?_
  rw [ea]
  intro vs S1 H1 G1 R1 o1 _
  match vs, o1 with
  | [r], .cons kr .nil =>
    refine make_in (C := C) (Q := fun x H2 => tCons tb tNil σ H2 fun ws H3 => (x :: ws).length ≤ sizeLine ∧ ∀ p, H3 p = none → gTup K 2 (gCons (gName i) (gCons (gName j) gNil)) (.ref p) σ (upd H3 p (.tup (x :: ws))) D.nx) R1 kr ok fun q S2 H2 fr s2' keep new R2 => ?_
    refine hb q S2 H2 σ _ _ R2 ?_
    rw [eb]
    intro w S3 H3 G3 R3 o3 f3
    refine ⟨by show 2 ≤ sizeLine; decide, fun p hp => ⟨p, _, rfl, SqT.of upd_same, rfl, .ref q.a, [w], rfl, w, [], rfl, rfl, ?_⟩⟩
    have f0 : FreeK B.H0 q := ⟨(R1.hnone fr.1).2.1, (R1.hnone fr.2.1).2.1, (R1.hnone fr.2.2).2.1⟩
    have R3' := R3.lay (o := .tup [.ref q.a, w]) hp
    have o3' := VOk.gro (Gro.lay R3 (o := .tup [.ref q.a, w]) hp) o3
    have R4 := R3'.store (i := i) (v := .ref q.a) (val := .rw (.ref q.a)) rfl rfl hi
    have k2 : VOk (addB B C q) S3 (upd H3 p (.tup [.ref q.a, w])) (σ.set i (some (.ref q.a))) (Tau.put ⟨τ.sl, (γ', (hd, [past0 m]))⟩ i (.rw (.ref q.a)) : Tau (addB B C q).R).sl w val := VOk.behind o3' fun o _ => by cases o
    have R5 := R4.store k2 es (by show j < (τ.sl.set i _).length; rw [List.length_set]; exact hj)
    exact k q S3 _ _ f0 (G1.s.trans (s2'.trans G3.s)) R5
theorem tri_open1U {K : PySem.W.Frag} {gb : ∀ q, Den (addB B C q).R} {gr : ∀ q, DenS (addB B C q).R} {val : Val} {s2 : Sl} {γ' : B.R.Γ} (ha : SndA B t1 ga) (ea : ga τ = .ok ([.sh hd], τ)) (ok : okRow hd = some m) (hb : ∀ q, SndE (addB B C q) tb (gb q))
    (eb : ∀ q, gb q ⟨τ.sl, (τ.γ, (hd, [past0 m]))⟩ = .ok (val, ⟨τ.sl, (γ', (hd, [past0 m]))⟩)) (es : val.slot = some s2) (hi : i < τ.sl.length) (hj : j < τ.sl.length)
    (D : ∀ q, DSs (addB B C q) X sts rest (gr q)) (er : ∀ q : KA, ∃ τ4, gr q ⟨(τ.sl.set i (.rw (.ref q.a))).set j s2, (γ', (hd, [past0 m]))⟩ = .ok (.nx τ4) ∧ τ4.sl.length = n) :
    Tri B (tSeq (tMk1U K C okRow i j t1 tb) rest) τ fun τ' => τ'.sl.length = n := fun S H σ D' R k => by
  refine open1U (D := { D' with nx := rest D' }) ha ea ok hb eb es hi hj R fun q S3 H3 σ3 f0 sm R3 => ?_
  obtain ⟨τ4, e4, l4⟩ := er q
  refine (D q).sd S3 H3 σ3 _ D' R3 ?_
  rw [e4]
  exact fun S4 H4 σ4 sm4 R4 => k S4 H4 σ4 ⟨τ4.sl, τ4.γ.1⟩ (sm.trans sm4) (rel_close f0 R4) l4
/-- two objects, to the end -/
theorem triV_open2 {ga2 : ∀ q, DenA (addB B C q).R} {gr : ∀ q q2, DenS (addB (addB B C q) C q2).R} (ha : SndA B t1 ga) (ea : ga τ = .ok ([.sh hd], τ)) (ok : okRow hd = some m) (hb : ∀ q, SndA (addB B C q) t2 (ga2 q))
    (eb : ∀ q, ga2 q ⟨τ.sl, (τ.γ, (hd, [past0 m]))⟩ = .ok ([.sh hd2], ⟨τ.sl, (τ.γ, (hd, [past0 m]))⟩)) (ok2 : okRow hd2 = some m2) (hi : i < τ.sl.length) (hj : j < τ.sl.length)
    (D : ∀ q q2, DSs (addB (addB B C q) C q2) X sts rest (gr q q2)) (er : ∀ q q2 : KA, ∃ τ4, gr q q2 ⟨(τ.sl.set i (.rw (.ref q.a))).set j (.rw (.ref q2.a)), ((τ.γ, (hd, [past0 m])), (hd2, [past0 m2]))⟩ = .ok (.rt (.sh (.bool true)) τ4)) :
    TriV B (tSeq (tPar i j (tCons (tMake C (spInit C okRow) [] E0 t1) (tCons (tMake C (spInit C okRow) [] E0 t2) tNil))) rest) τ := fun S H σ D' R k => by
  refine open2 (D := { D' with nx := rest D' }) ha ea ok hb eb ok2 hi hj R fun q q2 S3 H3 σ3 R3 => ?_
  obtain ⟨τ4, e4⟩ := er q q2
  exact triV_ofs (D q q2) e4 S3 H3 σ3 D' R3 k
end
end Kn
set_option Elab.async false
set_option linter.all false
set_option maxRecDepth 100000
set_option maxHeartbeats 4000000
namespace Kd
open PySem PySem.Spec L2 Kn
open PyProof.Rows hiding St
/-! _law_draws: slots cell many size found rest stirred k -/
def g__law_draws : DenS R0 :=
    (dThen (dSet 3 (dLst dNil))
    (dThen (dSet 4 (dOp fMul (dBor 0) (dCB fInt (dCons (dOp fGe (dBor 0) (dOp fPowI (dC (.int 10)) (dC (.int 18)))) dNil))))
    (dThen (dSet 5 (dOp fModI (dBor 0) (dC (.int 2305843009213693951))))
    (dThen (dFor (dRng1 (dCons (dOp fAdd (dBor 1) (dC (.int 3))) dNil)) (setN 6) (dThen (dSet 5 (dOp fModI (dOp fAdd (dOp fAdd (dOp fAdd (dOp fMul (dBor 5) (dBor 5)) (dOp fMul (dC (.int 48271)) (dBor 5))) (dBor 6)) (dC (.int 1))) (dC (.int 2305843009213693951))))
    (dIfS (dAnd (dTest (dOp fGt (dBor 6) (dC (.int 2)))) (dTest (dOp fGt (dBor 4) (dC (.int 0))))) (dThen (dApp 3 (dSh (dOp fModI (dBor 4) (dBor 2))))
    (dSet 4 (dOp fDivI (dBor 4) (dBor 2)))) (dIfS (dTest (dOp fGt (dBor 6) (dC (.int 2)))) (dApp 3 (dSh (dOp fModI (dOp fDivI (dBor 5) (dC (.int 4096))) (dBor 2)))) dNx))))
    (dRet (dTake 3))))))
def F__law_draws : PFn := runF 7 3 g__law_draws
/-! _law_cell_at: slots script k -/
def g__law_cell_at (K : PySem.W.Frag) (p : Addr × List Int) : DenS (scrR K p) :=
    (dThen (dIfS (dTest (dOp fLtA (dBor 1) (dCB (fLenR p) (dCons (dVar 0) dNil)))) (dRet (dOp (fIxR p) (dVar 0) (dBor 1))) dNx)
    (dRet (dC (.int 0))))
def F__law_cell_at (K : PySem.W.Frag) : SFn K := runR (scrR K) Prod.fst 2 2 (g__law_cell_at K)
/-! _law_bag: slots script k -/
def g__law_bag (K : PySem.W.Frag) (p : Addr × List Int) : DenS (scrR K p) :=
    (dRet (dLst (dCons (dSh (dCall F__law_draws (dCons (dCallR (scrR K) Prod.fst p (F__law_cell_at K) (dCons (dVar 0) (dCons (dBor 1) dNil))) (dCons (dC (.int 400)) (dCons (dC (.int 1000)) dNil))))) (dCons (dC (.int 0)) dNil))))
def F__law_bag (K : PySem.W.Frag) : SFn K := runR (scrR K) Prod.fst 2 2 (g__law_bag K)
def gi__law_bags (K : PySem.W.Frag) (p : Addr × List Int) : DenI (scrR K p) := (dRng1 (dCons (dCB fMax2 (dCons (dC (.int 1)) (dCons (dCB fMin2 (dCons (dBor 1) (dCons (dCB (fLenR p) (dCons (dVar 0) dNil)) dNil))) dNil))) dNil))
def ge__law_bags (K : PySem.W.Frag) (p : Addr × List Int) : Den (scrR K p) := (dCallR (scrR K) Prod.fst p (F__law_bag K) (dCons (dVar 0) (dCons (dBor 2) dNil)))
def dOf (c : Int) : List Int := match F__law_draws [.int c, .int 400, .int 1000] with | some (.ok (.fr ds) _) => (asInts ds).getD [] | _ => []
def drL (p : Addr × List Int) : PyData → List Int | .int k => dOf (p.2.getD k.toNat 0) | _ => []
def HitBags (K : PySem.W.Frag) : Prop := ∀ (p : Addr × List Int) (lim : Int), p.2.length ≤ 63 → 1 ≤ lim → lim ≤ 63 → ∃ items, gi__law_bags K p (entry 3 [.ref p.1] [.int lim] ()) = .ok (items, entry 3 [.ref p.1] [.int lim] ()) ∧ items.length ≤ 63 ∧
      ∀ d ∈ items, isDraw (drL p d) ∧ ∃ τ3, ge__law_bags K p ⟨[.rw (.ref p.1), .ar (.int lim), .sh d], ()⟩ = .ok (.fr [.list (nsD (drL p d)), .int 0], τ3) ∧ τ3.wipe [2] = entry 3 [.ref p.1] [.int lim] ()
def F__law_take : BFn := F_take
/-! _law_house: slots bag most -/
def g__law_house (ab : Addr) : DenS (bagR ab) :=
    (dRet (dTup (dCons (dSh (dOp fAdd (dC (.int 1)) (dCallR bagR id ab F__law_take (dCons (dVar 0) (dCons (dBor 1) dNil))))) (dCons (dSh (dOp fIx (dLst (dCons (dC (.str "left")) (dCons (dC (.str "right")) dNil))) (dCallR bagR id ab F__law_take (dCons (dVar 0) (dCons (dC (.int 2)) dNil))))) dNil))))
def F__law_house : BFn := runR bagR id 2 2 g__law_house
/-! _law_mixed: slots bag many found one -/
def g__law_mixed (ab : Addr) : DenS (bagR ab) :=
    (dThen (dSet 2 (dLst dNil))
    (dThen (dFor (dRng2 (dCons (dC (.int 1)) (dCons (dOp fAdd (dBor 1) (dC (.int 1))) dNil))) (setN 3) (dIns 2 (dSh (dCallR bagR id ab F__law_take (dCons (dVar 0) (dCons (dBor 3) dNil)))) (dVar 3)))
    (dRet (dCB fTuple (dCons (dBor 2) dNil)))))
def F__law_mixed : BFn := runR bagR id 4 2 g__law_mixed
/-! _law_coming: slots bag house most -/
def g__law_coming (ab : Addr) : DenS (bagR ab) :=
    (dRet (dSl (dCallR bagR id ab F__law_mixed (dCons (dVar 0) (dCons (dOp fIx (dBor 1) (dC (.int 0))) dNil))) dNoPart (dPart (dCallR bagR id ab F__law_take (dCons (dVar 0) (dCons (dOp fAdd (dCB fMin2 (dCons (dOp fIx (dBor 1) (dC (.int 0))) (dCons (dBor 2) dNil))) (dC (.int 1))) dNil))))))
def F__law_coming : BFn := runR bagR id 3 3 g__law_coming
/-! _law_past: slots house there seat less more one -/
def g__law_past : DenS R0 :=
    (dThen (dPar 3 4 (dLst dNil) (dLst dNil))
    (dThen (dFor (dSeq (dSh (dCB fSortedA (dCons (dBor 1) dNil)))) (setN 5) (dThen (dIfS (dTest (dOp fLtA (dBor 5) (dBor 2))) (dApp 3 (dVar 5)) dNx)
    (dIfS (dTest (dOp fGt (dBor 5) (dBor 2))) (dApp 4 (dVar 5)) dNx)))
    (dThen (dIfS (dTest (dOp fEq (dCB fLen (dCons (dBor 3) dNil)) (dCB fLen (dCons (dBor 4) dNil)))) (dRet (dIf (dTest (dOp fEq (dOp fIx (dBor 0) (dC (.int 1))) (dC (.str "left")))) (dTake 3) (dTake 4))) dNx)
    (dRet (dIf (dTest (dOp fLtA (dCB fLen (dCons (dBor 3) dNil)) (dCB fLen (dCons (dBor 4) dNil)))) (dTake 3) (dTake 4))))))
def F__law_past : PFn := runF 6 3 g__law_past
/-! _law_goings: slots house order found there seat -/
def g__law_goings : DenS R0 :=
    (dThen (dPar 2 3 (dLst dNil) (dLst dNil))
    (dThen (dFor (dSeq (dVar 1)) (setN 4) (dThen (dApp 2 (dSh (dCall F__law_past (dCons (dBor 0) (dCons (dBor 3) (dCons (dBor 4) dNil))))))
    (dApp 3 (dVar 4))))
    (dRet (dTake 2))))
def F__law_goings : PFn := runF 5 2 g__law_goings
/-! is_within: slots thing low high -/
def g_is_within : DenS R0 :=
    (dRet (dAndV (dCB (fIsi "int") (dCons (dBor 0) (dCons (dRaw (.ty "int")) dNil))) (dAndV (dNotV (dCB (fIsi "bool") (dCons (dBor 0) (dCons (dRaw (.ty "bool")) dNil)))) (dChain fLe fLe (dBor 1) (dBor 0) (dBor 2)))))
def F_is_within : PFn := runF 3 3 g_is_within
/-! is_row: slots thing -/
def g_is_row : DenS R0 :=
    (dThen (dIfS (dOr (dNot (dTest (dCB (fIsi "tuple") (dCons (dBor 0) (dCons (dRaw (.ty "tuple")) dNil))))) (dOr (dTest (dOp fNe (dCB fLen (dCons (dBor 0) dNil)) (dC (.int 2)))) (dNot (dTest (dCall F_is_within (dCons (dOp fIx (dBor 0) (dC (.int 0))) (dCons (dC (.int 1)) (dCons (dC (.int 60)) dNil)))))))) (dRet (dC (.bool false))) dNx)
    (dRet (dAndV (dCB (fIsi "str") (dCons (dOp fIx (dBor 0) (dC (.int 1))) (dCons (dRaw (.ty "str")) dNil))) (dOp fInA (dOp fIx (dBor 0) (dC (.int 1))) (dTup (dCons (dC (.str "left")) (dCons (dC (.str "right")) dNil)))))))
def F_is_row : PFn := runF 1 1 g_is_row
/-! need_row: slots row -/
def g_need_row : DenS R0 :=
    (dIfS (dNot (dTest (dCall F_is_row (dCons (dBor 0) dNil)))) dNever dNx)
def F_need_row : PFn := runF 1 1 g_need_row
/-! is_seat: slots row thing -/
def g_is_seat : DenS R0 :=
    (dRet (dCall F_is_within (dCons (dBor 1) (dCons (dC (.int 1)) (dCons (dOp fIx (dBor 0) (dC (.int 0))) dNil)))))
def F_is_seat : PFn := runF 2 2 g_is_seat
/-! are_seats: slots row thing one -/
def g_are_seats : DenS R0 :=
    (dThen (dIfS (dOr (dNot (dTest (dCB (fIsi "tuple") (dCons (dBor 1) (dCons (dRaw (.ty "tuple")) dNil))))) (dOr (dTest (dOp fGt (dCB fLen (dCons (dBor 1) dNil)) (dC (.int 40)))) (dNot (dTest (dCB fAll (dCons (dLc (dSeq (dVar 1)) (setN 2) dYes (dSh (dCall F_is_seat (dCons (dBor 0) (dCons (dBor 2) dNil)))) [2]) dNil)))))) (dRet (dC (.bool false))) dNx)
    (dRet (dOp fEq (dLenSet (dBor 1)) (dCB fLen (dCons (dBor 1) dNil)))))
def F_are_seats : PFn := runF 3 2 g_are_seats
/-! need_order: slots row order -/
def g_need_order : DenS R0 :=
    (dThen (dExpr (dCall F_need_row (dCons (dBor 0) dNil)))
    (dIfS (dNot (dTest (dCall F_are_seats (dCons (dBor 0) (dCons (dBor 1) dNil))))) dNever dNx))
def F_need_order : PFn := runF 2 2 g_need_order
/-! passed: slots row there seat left right one -/
def g_passed : DenS R0 :=
    (dThen (dSet 3 (dCB fSortedA (dCons (dLc (dSeq (dVar 1)) (setN 5) (dTest (dOp fLtA (dBor 5) (dBor 2))) (dVar 5) [5]) dNil)))
    (dThen (dSet 4 (dCB fSortedA (dCons (dLc (dSeq (dVar 1)) (setN 5) (dTest (dOp fGt (dBor 5) (dBor 2))) (dVar 5) [5]) dNil)))
    (dThen (dIfS (dTest (dOp fNe (dCB fLen (dCons (dBor 3) dNil)) (dCB fLen (dCons (dBor 4) dNil)))) (dRet (dIf (dTest (dOp fLtA (dCB fLen (dCons (dBor 3) dNil)) (dCB fLen (dCons (dBor 4) dNil)))) (dTake 3) (dTake 4))) dNx)
    (dRet (dIf (dTest (dOp fEq (dOp fIx (dBor 0) (dC (.int 1))) (dC (.str "left")))) (dTake 3) (dTake 4))))))
def F_passed : PFn := runF 6 3 g_passed
/-! all_passed: slots row order place seat -/
def g_all_passed : DenS R0 :=
    (dRet (dLc (dEnum (dCons (dVar 1) dNil)) (setTup (setCons (setN 2) (setCons (setN 3) setNil))) dYes (dSh (dCall F_passed (dCons (dBor 0) (dCons (dSl (dBor 1) dNoPart (dPart (dBor 2))) (dCons (dBor 3) dNil))))) [2, 3]))
def F_all_passed : PFn := runF 4 2 g_all_passed
/-! numbers: slots row order some -/
def g_numbers : DenS R0 :=
    (dThen (dExpr (dCall F_need_order (dCons (dBor 0) (dCons (dBor 1) dNil))))
    (dRet (dLc (dSeq (dSh (dCall F_all_passed (dCons (dBor 0) (dCons (dBor 1) dNil))))) (setN 2) dYes (dSh (dCB fLen (dCons (dBor 2) dNil))) [2])))
def F_numbers : PFn := runF 3 2 g_numbers
/-! times_of: slots row order found some seat -/
def g_times_of : DenS R0 :=
    (dThen (dSet 2 (dCB fDict (dCons (dLc (dSeq (dSh (dCB fSortedA (dCons (dBor 1) dNil)))) (setN 4) dYes (dTup (dCons (dVar 4) (dCons (dC (.int 0)) dNil))) [4]) dNil)))
    (dThen (dFor (dSeq (dSh (dCall F_all_passed (dCons (dBor 0) (dCons (dBor 1) dNil))))) (setN 3) (dFor (dSeq (dVar 3)) (setN 4) (dDAug 2 (dBor 4) (dC (.int 1)))))
    (dRet (dTake 2))))
def F_times_of : PFn := runF 5 2 g_times_of
/-! times: slots row order -/
def g_times : DenS R0 :=
    (dThen (dExpr (dCall F_need_order (dCons (dBor 0) (dCons (dBor 1) dNil))))
    (dRet (dSortedItems (dCall F_times_of (dCons (dBor 0) (dCons (dBor 1) dNil))))))
def F_times : PFn := runF 2 2 g_times
/-! stands_for: slots row order one other seat -/
def g_stands_for : DenS R0 :=
    (dThen (dExpr (dCall F_need_order (dCons (dBor 0) (dCons (dBor 1) dNil))))
    (dThen (dFor (dSeq (dTup (dCons (dVar 2) (dCons (dVar 3) dNil)))) (setN 4) (dIfS (dOr (dNot (dTest (dCall F_is_seat (dCons (dBor 0) (dCons (dBor 4) dNil))))) (dTest (dOp fNotInA (dBor 4) (dBor 1)))) dNever dNx))
    (dRet (dCB fInt (dCons (dOp fInA (dBor 2) (dCall F_passed (dCons (dBor 0) (dCons (dSl (dBor 1) dNoPart (dPart (dIndex (dBor 1) (dCons (dVar 3) dNil)))) (dCons (dBor 3) dNil))))) dNil)))))
def F_stands_for : PFn := runF 5 4 g_stands_for
end Kd
set_option Elab.async false
set_option linter.all false
set_option maxRecDepth 100000
set_option maxHeartbeats 4000000
namespace Kd
open PySem PySem.Spec L2 Kn
open PyProof.Rows hiding St
/-! lists -/
theorem small {α : Type} {l : List α} (h : l.length ≤ 100000) : l.length ≤ sizeLine := Nat.le_trans h (by decide)
theorem small' {n : Nat} (h : n ≤ 100000) : n ≤ sizeLine := Nat.le_trans h (by decide)
theorem smallL {n : Nat} (h : n ≤ 100000) : n < sizeLine := Nat.lt_of_le_of_lt h (by decide)
theorem isort_length (l : List Int) : (isort l).length = l.length := (isort_perm l).length_eq
theorem mem_isort {x : Int} {l : List Int} : x ∈ isort l ↔ x ∈ l := (isort_perm l).mem_iff
theorem isort_nodup {l : List Int} (h : l.Nodup) : (isort l).Nodup := (isort_perm l).nodup_iff.mpr h
theorem isort_filter (p : Int → Bool) (l : List Int) : isort (l.filter p) = (isort l).filter p :=
  (eq_isort ((isort_perm l).filter p) ((isort_sorted l).filter p)).symm
theorem filter_ns (p : PyData → Bool) (ns : List Int) : (nsD ns).filter p = nsD (ns.filter fun i => p (.int i)) := by
  rw [List.filter_map]
  rfl
theorem cut_to {α : Type} (xs : List α) (k : Nat) : cutL xs none (some (k : Int)) = xs.take k := by
  unfold cutL
  rw [HT.sIx_none, HT.sIx_nat, List.drop_zero, Nat.sub_zero]
  by_cases h : k ≤ xs.length
  · rw [Nat.min_eq_left h]
  · rw [Nat.min_eq_right (by omega), List.take_of_length_le (Nat.le_refl _), List.take_of_length_le (by omega)]
theorem cut_toI {α : Type} (xs : List α) (k : Int) (h : 0 ≤ k) : cutL xs none (some k) = xs.take k.toNat := by
  have : ((k.toNat : Nat) : Int) = k := Int.toNat_of_nonneg h
  rw [← this, cut_to]
  rw [this]
theorem cut_last {α : Type} (xs : List α) (x : α) : cutL (xs ++ [x]) none (some (-1)) = xs := by
  unfold cutL
  have : HT.sIx (xs ++ [x]).length (xs ++ [x]).length (some (-1)) = xs.length := by
    show (if (-1 : Int) < 0 then (-1 + ((xs ++ [x]).length : Int)).toNat else min (-1 : Int).toNat (xs ++ [x]).length) = _
    rw [if_pos (by decide), List.length_append, List.length_singleton]
    omega
  rw [this, HT.sIx_none]
  simp
theorem take_ns (ns : List Int) (k : Nat) : (nsD ns).take k = nsD (ns.take k) := List.map_take.symm
@[simp] theorem asBools_map {α : Type} (f : α → Bool) (l : List α) : asBools (l.map fun x => .bool (f x)) = some (l.map f) := by
  rw [← asBools_bools (l.map f), List.map_map]
  rfl
@[simp] theorem asInts_map {α : Type} (f : α → Int) (l : List α) : asInts (l.map fun x => .int (f x)) = some (l.map f) := by
  rw [← asInts_ints (l.map f)]
  show _ = asInts ((l.map f).map PyData.int)
  rw [List.map_map]
  rfl
section
variable {R : Rsc}
theorem lcGo_filtI {set : SetD R} {gt : DenT R} {ge : Den R} {vs : List Nat} {τ : Tau R} (p : Int → Bool) (ns : List Int)
    (h : ∀ i ∈ ns, ∃ τ1, set (.int i) τ = some τ1 ∧ gt τ1 = .ok (p i, τ1) ∧ ge τ1 = .ok (.sh (.int i), τ1) ∧ τ1.wipe vs = τ) :
    lcGo set gt ge vs (nsD ns) [] τ = .ok (nsD (ns.filter p), τ) := by
  have := lcGo_filt (R := R) (set := set) (gt := gt) (ge := ge) (vs := vs) (τ := τ) (fun d => match d with | .int i => p i | _ => false) (nsD ns) fun d m => by
    obtain ⟨i, hi, rfl⟩ := List.mem_map.mp m
    exact h i hi
  rw [this, filter_ns]
theorem lcGo_mapI {set : SetD R} {ge : Den R} {vs : List Nat} {τ : Tau R} (f : Int → PyData) (ns : List Int)
    (h : ∀ i ∈ ns, ∃ τ1, set (.int i) τ = some τ1 ∧ ge τ1 = .ok (.sh (f i), τ1) ∧ τ1.wipe vs = τ) :
    lcGo set dYes ge vs (nsD ns) [] τ = .ok (ns.map f, τ) := by
  have := lcGo_pure (R := R) (set := set) (ge := ge) (vs := vs) (τ := τ) (fun d => match d with | .int i => f i | _ => d) (nsD ns) fun d m => by
    obtain ⟨i, hi, rfl⟩ := List.mem_map.mp m
    exact h i hi
  rw [this, List.map_map]
  rfl
/-- over the items of a mapped list -/
theorem lcGo_mapA {α : Type} {set : SetD R} {ge : Den R} {vs : List Nat} {τ : Tau R} (g f : α → PyData) (xs : List α)
    (h : ∀ x ∈ xs, ∃ τ1, set (g x) τ = some τ1 ∧ ge τ1 = .ok (.sh (f x), τ1) ∧ τ1.wipe vs = τ) :
    lcGo set dYes ge vs (xs.map g) [] τ = .ok (xs.map f, τ) := by
  suffices H : ∀ (xs : List α) (acc : List PyData), (∀ x ∈ xs, ∃ τ1, set (g x) τ = some τ1 ∧ ge τ1 = .ok (.sh (f x), τ1) ∧ τ1.wipe vs = τ) → lcGo set dYes ge vs (xs.map g) acc τ = .ok (acc ++ xs.map f, τ) by
    have := H xs [] h
    simpa using this
  intro xs
  induction xs with
  | nil => intro acc _; simp [lcGo]
  | cons x r ih =>
    intro acc h
    obtain ⟨τ1, e1, e2, e3⟩ := h x List.mem_cons_self
    simp [lcGo, e1, e2, e3, ih (acc ++ [f x]) fun y m => h y (List.mem_cons_of_mem _ m)]
end
/-! dicts of counts -/
abbrev dk (L : List Int) (c : Int → Int) : List (Int × PyData) := L.map fun s => (s, .int (c s))
theorem valI_dk {c : Int → Int} {k : Int} : ∀ {L : List Int}, k ∈ L → valI (dk L c) k = some (.int (c k))
  | s :: L, h => by
    unfold valI
    show Option.map _ (List.find? (fun p : Int × PyData => decide (p.1 = k)) ((s, .int (c s)) :: dk L c)) = _
    rw [List.find?_cons]
    by_cases e : s = k
    · simp [e]
    · have : k ∈ L := by
        rcases List.mem_cons.mp h with h | h
        · exact absurd h.symm e
        · exact h
      have ih := valI_dk (c := c) this
      unfold valI at ih
      simp only [e, decide_false]
      exact ih
theorem putI_dk {c : Int → Int} {k v : Int} {L : List Int} (h : k ∈ L) : putI (dk L c) k (.int v) = dk L (fun s => if s = k then v else c s) := by
  unfold putI
  have : ((dk L c).any fun p => decide (p.1 = k)) = true := by
    rw [List.any_eq_true]
    exact ⟨(k, .int (c k)), List.mem_map.mpr ⟨k, h, rfl⟩, by simp⟩
  rw [if_pos this, List.map_map]
  apply List.map_congr_left
  intro s _
  by_cases e : s = k <;> simp [e]
theorem asPairs_dk (c : Int → Int) : ∀ L : List Int, asPairs (L.map fun s => PyData.tuple [.int s, .int (c s)]) = some (dk L c)
  | [] => rfl
  | s :: L => by
    rw [List.map_cons]
    show (asPairs _).map _ = _
    rw [asPairs_dk c L]
    rfl
theorem merge_new (c : Int → Int) : ∀ (L acc : List Int), (acc ++ L).Nodup → mergeI (dk acc c) (dk L c) = dk (acc ++ L) c
  | [], acc, _ => by simp [mergeI]
  | s :: L, acc, h => by
    have hs : s ∉ acc := fun m => by
      rw [List.nodup_append] at h
      exact h.2.2 s m s List.mem_cons_self rfl
    have hp : putI (dk acc c) s (.int (c s)) = dk (acc ++ [s]) c := by
      unfold putI
      rw [if_neg]
      · show _ = List.map _ (acc ++ [s])
        rw [List.map_append]
        rfl
      · rw [Bool.not_eq_true, List.any_eq_false]
        intro p m
        obtain ⟨x, hx, rfl⟩ := List.mem_map.mp m
        simp only [decide_eq_true_eq]
        exact fun z => hs (z ▸ hx)
    show mergeI (putI (dk acc c) s (.int (c s))) (dk L c) = _
    rw [hp, merge_new c L (acc ++ [s]) (by simpa using h)]
    simp
theorem asIP_dk (c : Int → Int) : ∀ L : List Int, asIP (dk L c) = some (L.map fun s => (s, c s))
  | [] => rfl
  | s :: L => by
    show (asIP (dk L c)).map _ = _
    rw [asIP_dk c L]
    rfl
theorem psort_dk (c : Int → Int) {L : List Int} (h : L.Pairwise (· ≤ ·)) (nd : L.Nodup) : psort (L.map fun s => (s, c s)) = L.map fun s => (s, c s) := by
  refine psorted_one (psort_perm _) (psort_sorted _) ?_
  rw [List.pairwise_map]
  refine (h.and nd).imp fun {a b} z => ?_
  refine SrtO.lexB_no.mpr ?_
  have h1 := z.1
  have h2 : a ≠ b := z.2
  simp only
  omega
end Kd
set_option Elab.async false
set_option linter.all false
set_option maxRecDepth 100000
set_option maxHeartbeats 4000000
namespace Kd
open PySem PySem.Spec L2 Kn
open PyProof.Rows hiding St
theorem e_within (x lo hi : Int) : F_is_within [.int x, .int lo, .int hi] = some (.ok (.sh (.bool (decide (lo ≤ x) && decide (x ≤ hi)))) ()) := by
  refine runF_eq rfl ?_
  show toRes (g_is_within ⟨[.ar (.int x), .ar (.int lo), .ar (.int hi)], ()⟩) = _
  by_cases h : lo ≤ x
  · simp [g_is_within, h]
  · simp [g_is_within, h]
abbrev houseD (n : Int) (left : Bool) : PyData := .tuple [.int n, .str (if left then "left" else "right")]
theorem in_sides (left : Bool) : fInA (.sh (.str (if left then "left" else "right"))) (.sh (.tuple [.str "left", .str "right"])) = some (.sh (.bool true)) := by
  cases left <;> rfl
theorem e_row (n : Int) (left : Bool) (h1 : 1 ≤ n) (h2 : n ≤ 60) : F_is_row [houseD n left] = some (.ok (.sh (.bool true)) ()) := by
  refine runF_eq rfl ?_
  show toRes (g_is_row ⟨[.ar (houseD n left)], ()⟩) = _
  simp [g_is_row, e_within, h1, h2, in_sides]
theorem e_need_row (n : Int) (left : Bool) (h1 : 1 ≤ n) (h2 : n ≤ 60) : F_need_row [houseD n left] = some (.ok (.sh .none) ()) := by
  refine runF_eq rfl ?_
  show toRes (g_need_row ⟨[.ar (houseD n left)], ()⟩) = _
  simp [g_need_row, e_row n left h1 h2]
theorem e_is_seat (n : Int) (left : Bool) (i : Int) : F_is_seat [houseD n left, .int i] = some (.ok (.sh (.bool (decide (1 ≤ i) && decide (i ≤ n)))) ()) := by
  refine runF_eq rfl ?_
  show toRes (g_is_seat ⟨[.ar (houseD n left), .ar (.int i)], ()⟩) = _
  simp [g_is_seat, e_within]
/-- an order: tuple of distinct seats -/
structure Ord (n : Int) (o : List Int) : Prop where
  nd : o.Nodup
  rg : ∀ i ∈ o, 1 ≤ i ∧ i ≤ n
  ln : o.length ≤ 40
theorem Ord.sz {n : Int} {o : List Int} (h : Ord n o) : o.length ≤ sizeLine := small' (by have := h.ln; omega)
theorem e_are_seats (n : Int) (left : Bool) (o : List Int) (h : Ord n o) : F_are_seats [houseD n left, .tuple (nsD o)] = some (.ok (.sh (.bool true)) ()) := by
  refine runF_eq rfl ?_
  show toRes (g_are_seats ⟨[.ar (houseD n left), .ar (.tuple (nsD o)), .un], ()⟩) = _
  have hl := lcGo_mapI (R := R0) (set := setN 2) (ge := dSh (dCall F_is_seat (dCons (dBor 0) (dCons (dBor 2) dNil)))) (vs := [2]) (τ := ⟨[.ar (houseD n left), .ar (.tuple (nsD o)), .un], ()⟩) (fun _ => .bool true) o fun i hi => by
    obtain ⟨h1, h2⟩ := h.rg i hi
    refine ⟨_, rfl, ?_, rfl⟩
    simp [e_is_seat, h1, h2]
  have hl40 : ¬ (40 < (o.length : Int)) := by have := h.ln; omega
  have hl4000 : o.length ≤ 4000 := by have := h.ln; omega
  simp [g_are_seats, h.sz, hl, hl40, hl4000, dedup_id h.nd]
theorem e_need_order (n : Int) (left : Bool) (o : List Int) (h1 : 1 ≤ n) (h2 : n ≤ 60) (h : Ord n o) : F_need_order [houseD n left, .tuple (nsD o)] = some (.ok (.sh .none) ()) := by
  refine runF_eq rfl ?_
  show toRes (g_need_order ⟨[.ar (houseD n left), .ar (.tuple (nsD o))], ()⟩) = _
  simp [g_need_order, e_need_row n left h1 h2, e_are_seats n left o h]
/-- who stands up -/
def pas (left : Bool) (there : List Int) (seat : Int) : List Int :=
  let l := isort (there.filter fun x => decide (x < seat))
  let r := isort (there.filter fun x => decide (seat < x))
  if l.length = r.length then (if left then l else r) else if l.length < r.length then l else r
theorem is_left (left : Bool) : fEq (.sh (.str (if left then "left" else "right"))) (.sh (.str "left")) = some (.sh (.bool left)) := by
  cases left
  · exact (fEq_ok rfl rfl SH.str SH.str).trans (by simp [PyData.eqv]; decide +kernel)
  · exact (fEq_ok rfl rfl SH.str SH.str).trans (by simp [PyData.eqv])
theorem e_passed (n : Int) (left : Bool) (o : List Int) (seat : Int) (hz : o.length ≤ 100000) : F_passed [houseD n left, .tuple (nsD o), .int seat] = some (.ok (.fr (nsD (pas left o seat))) ()) := by
  refine runF_eq rfl ?_
  show toRes (g_passed ⟨[.ar (houseD n left), .ar (.tuple (nsD o)), .ar (.int seat), .un, .un, .un], ()⟩) = _
  have hs := small' hz
  have hl1 := lcGo_filtI (R := R0) (set := setN 5) (gt := dTest (dOp fLtA (dBor 5) (dBor 2))) (ge := dVar 5) (vs := [5]) (τ := ⟨[.ar (houseD n left), .ar (.tuple (nsD o)), .ar (.int seat), .un, .un, .un], ()⟩) (fun i => decide (i < seat)) o fun i hi => ⟨_, rfl, by simp, by simp, rfl⟩
  have hl2 := lcGo_filtI (R := R0) (set := setN 5) (gt := dTest (dOp fGt (dBor 5) (dBor 2))) (ge := dVar 5) (vs := [5]) (τ := ⟨[.ar (houseD n left), .ar (.tuple (nsD o)), .ar (.int seat), .ow (nsD (isort (o.filter fun i => decide (i < seat)))), .un, .un], ()⟩) (fun i => decide (seat < i)) o fun i hi => ⟨_, rfl, by simp, by simp, rfl⟩
  unfold pas
  simp only []
  by_cases q : (isort (o.filter fun i => decide (i < seat))).length = (isort (o.filter fun i => decide (seat < i))).length
  · have h0 := is_left left
    cases left <;> simp at h0 <;> simp [g_passed, hs, hl1, hl2, q, h0]
  · by_cases q2 : (isort (o.filter fun i => decide (i < seat))).length < (isort (o.filter fun i => decide (seat < i))).length
    · simp [g_passed, hs, hl1, hl2, q, q2, Int.natCast_inj, Int.ofNat_lt]
    · simp [g_passed, hs, hl1, hl2, q, q2, Int.natCast_inj, Int.ofNat_lt]
end Kd
set_option Elab.async false
set_option linter.all false
set_option maxRecDepth 100000
set_option maxHeartbeats 4000000
namespace Kd
open PySem PySem.Spec L2 Kn
open PyProof.Rows hiding St
theorem take_succ' (ns : List Int) (i : Nat) (x : Int) (h : ns[i]? = some x) : ns.take (i + 1) = ns.take i ++ [x] := by
  rw [List.take_add_one, h]
  rfl
theorem get_ns {ns : List Int} {i : Nat} {d : PyData} (h : (nsD ns)[i]? = some d) : ∃ x, ns[i]? = some x ∧ d = .int x := by
  have h : (ns.map PyData.int)[i]? = some d := h
  rw [List.getElem?_map] at h
  obtain ⟨x, e, rfl⟩ := Option.map_eq_some_iff.mp h
  exact ⟨x, e, rfl⟩
theorem ns_append (a b : List Int) : nsD a ++ nsD b = nsD (a ++ b) := List.map_append.symm
theorem ns_one (a : Int) : [PyData.int a] = nsD [a] := rfl
theorem e_past (n : Int) (left : Bool) (o : List Int) (seat : Int) (hz : o.length ≤ 100000) : F__law_past [houseD n left, .list (nsD o), .int seat] = some (.ok (.fr (nsD (pas left o seat))) ()) := by
  refine runF_eq rfl ?_
  show toRes (g__law_past ⟨[.ar (houseD n left), .ar (.list (nsD o)), .ar (.int seat), .un, .un, .un], ()⟩) = _
  obtain ⟨τ', e, s5, rfl⟩ := forGo_at (R := R0) (set := setN 5) (gb := dThen (dIfS (dTest (dOp fLtA (dBor 5) (dBor 2))) (dApp 3 (dVar 5)) dNx) (dIfS (dTest (dOp fGt (dBor 5) (dBor 2))) (dApp 4 (dVar 5)) dNx)) (ds := nsD (isort o))
    (τ := ⟨[.ar (houseD n left), .ar (.list (nsD o)), .ar (.int seat), .ow [], .ow [], .un], ()⟩)
    (fun i τ => ∃ s5, τ = ⟨[.ar (houseD n left), .ar (.list (nsD o)), .ar (.int seat), .ow (nsD (((isort o).take i).filter fun x => decide (x < seat))), .ow (nsD (((isort o).take i).filter fun x => decide (seat < x))), s5], ()⟩) ⟨.un, by simp⟩ fun i d τ hd ⟨s5, e⟩ => by
    subst e
    obtain ⟨x, hx, rfl⟩ := get_ns hd
    refine ⟨_, ⟨[.ar (houseD n left), .ar (.list (nsD o)), .ar (.int seat), .ow (nsD (((isort o).take (i + 1)).filter fun x => decide (x < seat))), .ow (nsD (((isort o).take (i + 1)).filter fun x => decide (seat < x))), .sh (.int x)], ()⟩, rfl, .inl ?_, _, rfl⟩
    have l1 : (((isort o).take i).filter fun x => decide (x < seat)).length < sizeLine := smallL (Nat.le_trans (List.length_filter_le _ _) (Nat.le_trans (List.length_take_le' _ _) (by rw [isort_length]; exact hz)))
    have l2 : (((isort o).take i).filter fun x => decide (seat < x)).length < sizeLine := smallL (Nat.le_trans (List.length_filter_le _ _) (Nat.le_trans (List.length_take_le' _ _) (by rw [isort_length]; exact hz)))
    rw [take_succ' _ _ _ hx, List.filter_append, List.filter_append]
    by_cases q1 : x < seat
    · have q2 : ¬ seat < x := by omega
      simp [q1, q2, l1]
    · by_cases q2 : seat < x
      · simp [q1, q2, l2]
      · simp [q1, q2]
  have el : (nsD (isort o)).length = (isort o).length := List.length_map _
  rw [el, List.take_length, ← isort_filter, ← isort_filter] at e
  unfold pas
  simp only []
  by_cases q : (isort (o.filter fun i => decide (i < seat))).length = (isort (o.filter fun i => decide (seat < i))).length
  · have h0 := is_left left
    cases left <;> simp at h0 <;> simp [g__law_past, e, q, h0]
  · by_cases q2 : (isort (o.filter fun i => decide (i < seat))).length < (isort (o.filter fun i => decide (seat < i))).length
    · simp [g__law_past, e, q, q2, Int.natCast_inj, Int.ofNat_lt]
    · simp [g__law_past, e, q, q2, Int.natCast_inj, Int.ofNat_lt]
theorem pas_sub {left : Bool} {there : List Int} {seat x : Int} (h : x ∈ pas left there seat) : x ∈ there := by
  unfold pas at h
  simp only [] at h
  split at h
  · split at h
    · exact (List.mem_filter.mp (mem_isort.mp h)).1
    · exact (List.mem_filter.mp (mem_isort.mp h)).1
  · split at h
    · exact (List.mem_filter.mp (mem_isort.mp h)).1
    · exact (List.mem_filter.mp (mem_isort.mp h)).1
theorem pas_nodup {left : Bool} {there : List Int} {seat : Int} (h : there.Nodup) : (pas left there seat).Nodup := by
  unfold pas
  simp only []
  split
  · split
    · exact isort_nodup (h.filter _)
    · exact isort_nodup (h.filter _)
  · split
    · exact isort_nodup (h.filter _)
    · exact isort_nodup (h.filter _)
theorem pas_len {left : Bool} {there : List Int} {seat : Int} : (pas left there seat).length ≤ there.length := by
  unfold pas
  simp only []
  have a := List.length_filter_le (fun x => decide (x < seat)) there
  have b := List.length_filter_le (fun x => decide (seat < x)) there
  split
  · split <;> rw [isort_length] <;> assumption
  · split <;> rw [isort_length] <;> assumption
/-- who stands up for each -/
def gos (left : Bool) (o : List Int) : List (List Int) := (List.range o.length).map fun i => pas left (o.take i) (o.getD i 0)
abbrev nssD (rs : List (List Int)) : List PyData := rs.map fun r => .list (nsD r)
theorem gos_len (left : Bool) (o : List Int) : (gos left o).length = o.length := by simp [gos]
theorem gos_get {left : Bool} {o : List Int} {i : Nat} {x : Int} (h : o[i]? = some x) : (gos left o)[i]? = some (pas left (o.take i) x) := by
  unfold gos
  rw [List.getElem?_map, List.getElem?_range (List.getElem?_eq_some_iff.mp h).1]
  simp [List.getD_eq_getElem?_getD, h]
theorem gos_take {left : Bool} {o : List Int} {i : Nat} {x : Int} (h : o[i]? = some x) : (gos left o).take (i + 1) = (gos left o).take i ++ [pas left (o.take i) x] := by
  rw [List.take_add_one, gos_get h]
  rfl
theorem e_goings (n : Int) (left : Bool) (o : List Int) (hz : o.length ≤ 100000) : F__law_goings [houseD n left, .tuple (nsD o)] = some (.ok (.fr (nssD (gos left o))) ()) := by
  refine runF_eq rfl ?_
  show toRes (g__law_goings ⟨[.ar (houseD n left), .ar (.tuple (nsD o)), .un, .un, .un], ()⟩) = _
  obtain ⟨τ', e, s4, rfl⟩ := forGo_at (R := R0) (set := setN 4) (gb := dThen (dApp 2 (dSh (dCall F__law_past (dCons (dBor 0) (dCons (dBor 3) (dCons (dBor 4) dNil)))))) (dApp 3 (dVar 4))) (ds := nsD o)
    (τ := ⟨[.ar (houseD n left), .ar (.tuple (nsD o)), .ow [], .ow [], .un], ()⟩)
    (fun i τ => ∃ s4, τ = ⟨[.ar (houseD n left), .ar (.tuple (nsD o)), .ow (nssD ((gos left o).take i)), .ow (nsD (o.take i)), s4], ()⟩) ⟨.un, by simp⟩ fun i d τ hd ⟨s5, e⟩ => by
    subst e
    obtain ⟨x, hx, rfl⟩ := get_ns hd
    refine ⟨_, ⟨[.ar (houseD n left), .ar (.tuple (nsD o)), .ow (nssD ((gos left o).take (i + 1))), .ow (nsD (o.take (i + 1))), .sh (.int x)], ()⟩, rfl, .inl ?_, _, rfl⟩
    have l0 : (o.take i).length ≤ 100000 := Nat.le_trans (List.length_take_le' _ _) hz
    have l1 : ((gos left o).take i).length < sizeLine := smallL (Nat.le_trans (List.length_take_le' _ _) (by rw [gos_len]; exact hz))
    have l2 : (o.take i).length < sizeLine := smallL l0
    simp only [List.length_take] at l1 l2
    rw [take_succ' _ _ _ hx, gos_take hx]
    simp [e_past n left (o.take i) x l0, l1, l2, -List.map_take]
  have el : (nsD o).length = o.length := List.length_map _
  rw [el] at e
  have e2 : (gos left o).take o.length = gos left o := by rw [← gos_len left o, List.take_length]
  rw [e2] at e
  simp [g__law_goings, e]
theorem enum_ns (m : Nat) : ∀ ns : List Int, enumD m (nsD ns) = (List.range ns.length).map fun (i : Nat) => .tuple [.int (m + i : Nat), .int (ns.getD i 0)]
  | [] => rfl
  | x :: ns => by
    show PyData.tuple [.int m, .int x] :: enumD (m + 1) (nsD ns) = _
    rw [enum_ns (m + 1) ns, List.length_cons, List.range_succ_eq_map, List.map_cons, List.map_map]
    congr 1
    apply List.map_congr_left
    intro i _
    simp
    omega
theorem e_all_passed (n : Int) (left : Bool) (o : List Int) (hz : o.length ≤ 100000) : F_all_passed [houseD n left, .tuple (nsD o)] = some (.ok (.fr (nssD (gos left o))) ()) := by
  refine runF_eq rfl ?_
  show toRes (g_all_passed ⟨[.ar (houseD n left), .ar (.tuple (nsD o)), .un, .un], ()⟩) = _
  have hl := lcGo_mapA (R := R0) (set := setTup (setCons (setN 2) (setCons (setN 3) setNil))) (ge := dSh (dCall F_passed (dCons (dBor 0) (dCons (dSl (dBor 1) dNoPart (dPart (dBor 2))) (dCons (dBor 3) dNil))))) (vs := [2, 3]) (τ := ⟨[.ar (houseD n left), .ar (.tuple (nsD o)), .un, .un], ()⟩)
    (fun i : Nat => .tuple [.int (0 + i : Nat), .int (o.getD i 0)]) (fun i => .list (nsD (pas left (o.take i) (o.getD i 0)))) (List.range o.length) fun i hi => by
    refine ⟨⟨[.ar (houseD n left), .ar (.tuple (nsD o)), .sh (.int (0 + i : Nat)), .sh (.int (o.getD i 0))], ()⟩, rfl, ?_, rfl⟩
    have l0 : (o.take i).length ≤ 100000 := Nat.le_trans (List.length_take_le' _ _) hz
    simp [fSl, cut_to, take_ns, e_passed n left (o.take i) (o.getD i 0) l0, -List.map_take, -List.getD_eq_getElem?_getD]
  rw [← enum_ns] at hl
  have e2 : (List.range o.length).map (fun i => PyData.list (nsD (pas left (o.take i) (o.getD i 0)))) = nssD (gos left o) := by
    unfold gos
    show _ = List.map _ (List.map _ _)
    rw [List.map_map]
    rfl
  rw [e2] at hl
  have hs : (enumD 0 (nsD o)).length ≤ sizeLine := small' (by rw [enum_ns]; simpa using hz)
  simp [g_all_passed, hl, hs]
def nums (left : Bool) (o : List Int) : List Int := (gos left o).map fun r => (r.length : Int)
theorem e_numbers (n : Int) (left : Bool) (o : List Int) (h1 : 1 ≤ n) (h2 : n ≤ 60) (h : Ord n o) : F_numbers [houseD n left, .tuple (nsD o)] = some (.ok (.fr (nsD (nums left o))) ()) := by
  refine runF_eq rfl ?_
  have hz : o.length ≤ 100000 := by have := h.ln; omega
  show toRes (g_numbers ⟨[.ar (houseD n left), .ar (.tuple (nsD o)), .un], ()⟩) = _
  have hl := lcGo_mapA (R := R0) (set := setN 2) (ge := dSh (dCB fLen (dCons (dBor 2) dNil))) (vs := [2]) (τ := ⟨[.ar (houseD n left), .ar (.tuple (nsD o)), .un], ()⟩)
    (fun r : List Int => .list (nsD r)) (fun r => .int (r.length : Int)) (gos left o) fun i hi => ⟨_, rfl, by simp, rfl⟩
  have hs : (gos left o).length ≤ sizeLine := by rw [gos_len]; exact h.sz
  simp [g_numbers, e_need_order n left o h1 h2 h, e_all_passed n left o hz, hl, hs, nums]
end Kd
set_option Elab.async false
set_option linter.all false
set_option maxRecDepth 100000
set_option maxHeartbeats 4000000
namespace Kd
open PySem PySem.Spec L2 Kn
open PyProof.Rows hiding St
/-! times -/
def cntF (rows : List (List Int)) (s : Int) : Int := ((rows.filter fun r => decide (s ∈ r)).length : Int)
def bump (c : Int → Int) (k : Int) : Int → Int := fun s => if s = k then c k + 1 else c s
def bumpD (c : Int → Int) (d : PyData) : Int → Int := match d with
  | .int k => bump c k
  | _ => c
def bumpL (c : Int → Int) (d : PyData) : Int → Int := match d with
  | .list ds => ds.foldl bumpD c
  | _ => c
theorem fold_bump (s : Int) : ∀ (r : List Int) (c : Int → Int), r.Nodup → ((nsD r).foldl bumpD c) s = c s + (if s ∈ r then 1 else 0)
  | [], c, _ => by simp
  | k :: r, c, h => by
    rw [List.nodup_cons] at h
    show ((nsD r).foldl bumpD (bump c k)) s = _
    rw [fold_bump s r (bump c k) h.2]
    unfold bump
    by_cases e : s = k
    · subst e
      rw [if_pos rfl, if_neg h.1, if_pos List.mem_cons_self]
      omega
    · rw [if_neg e]
      by_cases m : s ∈ r
      · rw [if_pos m, if_pos (List.mem_cons_of_mem _ m)]
      · rw [if_neg m, if_neg fun z => (List.mem_cons.mp z).elim e m]
theorem fold_bumps (s : Int) : ∀ (rs : List (List Int)) (c : Int → Int), (∀ r ∈ rs, r.Nodup) → ((nssD rs).foldl bumpL c) s = c s + cntF rs s
  | [], c, _ => by simp [cntF]
  | r :: rs, c, h => by
    show ((nssD rs).foldl bumpL ((nsD r).foldl bumpD c)) s = _
    rw [fold_bumps s rs _ fun x m => h x (List.mem_cons_of_mem _ m), fold_bump s r c (h r List.mem_cons_self)]
    unfold cntF
    rw [List.filter_cons]
    by_cases m : s ∈ r
    · rw [if_pos m, if_pos (decide_eq_true m), List.length_cons]
      omega
    · rw [if_neg m, if_neg (by simpa using m)]
      omega
theorem gos_mem {left : Bool} {o r : List Int} (h : r ∈ gos left o) : ∃ i seat, r = pas left (o.take i) seat := by
  obtain ⟨i, _, rfl⟩ := List.mem_map.mp h
  exact ⟨i, _, rfl⟩
theorem gos_nodup {left : Bool} {o : List Int} (h : o.Nodup) : ∀ r ∈ gos left o, r.Nodup := fun r m => by
  obtain ⟨i, s, rfl⟩ := gos_mem m
  exact pas_nodup (h.sublist (List.take_sublist _ _))
theorem gos_sub {left : Bool} {o : List Int} : ∀ r ∈ gos left o, ∀ x ∈ r, x ∈ o := fun r m x hx => by
  obtain ⟨i, s, rfl⟩ := gos_mem m
  exact List.mem_of_mem_take (pas_sub hx)
theorem e_times_of (n : Int) (left : Bool) (o : List Int) (h : Ord n o) : F_times_of [houseD n left, .tuple (nsD o)] = some (.ok (.fd (dk (isort o) (cntF (gos left o)))) ()) := by
  refine runF_eq rfl ?_
  have hz : o.length ≤ 100000 := by have := h.ln; omega
  show toRes (g_times_of ⟨[.ar (houseD n left), .ar (.tuple (nsD o)), .un, .un, .un], ()⟩) = _
  have hl := lcGo_mapI (R := R0) (set := setN 4) (ge := dTup (dCons (dVar 4) (dCons (dC (.int 0)) dNil))) (vs := [4]) (τ := ⟨[.ar (houseD n left), .ar (.tuple (nsD o)), .un, .un, .un], ()⟩)
    (fun i => .tuple [.int i, .int 0]) (isort o) fun i hi => ⟨_, rfl, by simp, rfl⟩
  have hs : (isort o).length ≤ sizeLine := by rw [isort_length]; exact h.sz
  have hs2 : (isort o).length < sizeLine := smallL (by rw [isort_length]; exact hz)
  have hm : mergeI [] (dk (isort o) fun _ => 0) = dk (isort o) fun _ => 0 := merge_new (fun _ => 0) (isort o) [] (by simpa using isort_nodup h.nd)
  have hp := asPairs_dk (fun _ => 0) (isort o)
  -- the inner walk
  have inner : ∀ (ds : List PyData) (c : Int → Int) (τ : Tau R0), (∀ d ∈ ds, ∃ k, k ∈ isort o ∧ d = .int k) → (∃ s3 s4, τ = ⟨[.ar (houseD n left), .ar (.tuple (nsD o)), .od (dk (isort o) c), s3, s4], ()⟩) →
      ∃ τ', forGo (setN 4) (dDAug 2 (dBor 4) (dC (.int 1))) ds τ = .ok (.nx τ') ∧ (∃ s3 s4, τ' = ⟨[.ar (houseD n left), .ar (.tuple (nsD o)), .od (dk (isort o) (ds.foldl bumpD c)), s3, s4], ()⟩) := fun ds c τ ho hc =>
    forGo_fold (fun c τ => ∃ s3 s4, τ = ⟨[.ar (houseD n left), .ar (.tuple (nsD o)), .od (dk (isort o) c), s3, s4], ()⟩) bumpD (fun d => ∃ k, k ∈ isort o ∧ d = .int k) (fun c d τ hd ⟨s3, s4, e⟩ => by
      subst e
      obtain ⟨k, hk, rfl⟩ := hd
      refine ⟨_, ⟨[.ar (houseD n left), .ar (.tuple (nsD o)), .od (dk (isort o) (bump c k)), s3, .sh (.int k)], ()⟩, rfl, .inl ?_, s3, _, rfl⟩
      have e1 := valI_dk (c := c) hk
      have e2 := putI_dk (c := c) (v := c k + 1) hk
      have e3 : (dk (isort o) c).length < sizeLine := by rw [List.length_map]; exact hs2
      simp [e1, e2, hs2]
      exact fun _ _ => rfl) ds c τ ho hc
  obtain ⟨τ', e, s3, s4, rfl⟩ := forGo_fold (R := R0) (set := setN 3) (gb := dFor (dSeq (dVar 3)) (setN 4) (dDAug 2 (dBor 4) (dC (.int 1)))) (fun c τ => ∃ s3 s4, τ = ⟨[.ar (houseD n left), .ar (.tuple (nsD o)), .od (dk (isort o) c), s3, s4], ()⟩) bumpL (fun d => ∃ r, r ∈ gos left o ∧ d = .list (nsD r)) (fun c d τ hd ⟨s3, s4, e⟩ => by
      subst e
      obtain ⟨r, hr, rfl⟩ := hd
      obtain ⟨τ', e1, s3', s4', rfl⟩ := inner (nsD r) c ⟨[.ar (houseD n left), .ar (.tuple (nsD o)), .od (dk (isort o) c), .sh (.list (nsD r)), s4], ()⟩ (fun d m => by
        obtain ⟨k, hk, rfl⟩ := List.mem_map.mp m
        exact ⟨k, mem_isort.mpr (gos_sub r hr k hk), rfl⟩) ⟨_, _, rfl⟩
      exact ⟨_, _, rfl, .inl ((for_eq (by simp)).trans e1), s3', s4', rfl⟩) (nssD (gos left o)) (fun _ => 0) ⟨[.ar (houseD n left), .ar (.tuple (nsD o)), .od (dk (isort o) fun _ => 0), .un, .un], ()⟩ (fun d m => by
        obtain ⟨r, hr, rfl⟩ := List.mem_map.mp m
        exact ⟨r, hr, rfl⟩) ⟨_, _, rfl⟩
  have ec : (nssD (gos left o)).foldl bumpL (fun _ => 0) = cntF (gos left o) := by
    funext s
    rw [fold_bumps s _ _ (gos_nodup h.nd)]
    omega
  rw [ec] at e
  simp [g_times_of, hs, hl, hp, hm, e_all_passed n left o hz, e]
def stod (left : Bool) (o : List Int) : List (Int × Int) := (isort o).map fun s => (s, cntF (gos left o) s)
theorem e_times (n : Int) (left : Bool) (o : List Int) (h1 : 1 ≤ n) (h2 : n ≤ 60) (h : Ord n o) : F_times [houseD n left, .tuple (nsD o)] = some (.ok (.fr (prD (stod left o))) ()) := by
  refine runF_eq rfl ?_
  show toRes (g_times ⟨[.ar (houseD n left), .ar (.tuple (nsD o))], ()⟩) = _
  have e1 := asIP_dk (cntF (gos left o)) (isort o)
  have e2 := psort_dk (cntF (gos left o)) (isort_sorted o) (isort_nodup h.nd)
  simp only [g_times, ev_dThen, ev_dExpr, ev_dRet, ev_dSortedItems, ev_dCall, ev_dCons, ev_dNil, ev_dBor]
  simp [e_need_order n left o h1 h2 h, e_times_of n left o h, e1, e2, stod]
theorem e_stands_for (n : Int) (left : Bool) (o : List Int) (one other : Int) (h1 : 1 ≤ n) (h2 : n ≤ 60) (h : Ord n o) (m1 : one ∈ o) (m2 : other ∈ o) :
    F_stands_for [houseD n left, .tuple (nsD o), .int one, .int other] = some (.ok (.sh (.int (if one ∈ pas left (o.take (idx other o)) other then 1 else 0))) ()) := by
  refine runF_eq rfl ?_
  have l0 : (o.take (idx other o)).length ≤ 100000 := Nat.le_trans (List.length_take_le' _ _) (by have := h.ln; omega)
  show toRes (g_stands_for ⟨[.ar (houseD n left), .ar (.tuple (nsD o)), .ar (.int one), .ar (.int other), .un], ()⟩) = _
  have n1 := fNotInA_ok (i := one) (a := .sh (.tuple (nsD o))) rfl
  have n2 := fNotInA_ok (i := other) (a := .sh (.tuple (nsD o))) rfl
  have n3 := fInA_ok (i := one) (a := .fr (nsD (pas left (o.take (idx other o)) other))) rfl
  obtain ⟨r1, r2⟩ := h.rg one m1
  obtain ⟨r3, r4⟩ := h.rg other m2
  by_cases q : one ∈ pas left (o.take (idx other o)) other
  · simp [g_stands_for, e_need_order n left o h1 h2 h, forGo, e_is_seat, r1, r2, r3, r4, n1, n2, m1, m2, fIndex_ns m2, fSl, cut_to, take_ns, e_passed n left (o.take (idx other o)) other l0, n3, q, -List.map_take]
  · simp [g_stands_for, e_need_order n left o h1 h2 h, forGo, e_is_seat, r1, r2, r3, r4, n1, n2, m1, m2, fIndex_ns m2, fSl, cut_to, take_ns, e_passed n left (o.take (idx other o)) other l0, n3, q, -List.map_take]
end Kd
set_option Elab.async false
set_option linter.all false
set_option maxRecDepth 100000
set_option maxHeartbeats 4000000
namespace Kd
open PySem PySem.Spec L2 Kn
open PyProof.Rows hiding St
theorem takeR_nn {γ : Bag} {m : Int} (h : 0 < m) : 0 ≤ takeR γ m := Int.emod_nonneg _ (by omega)
theorem takeR_lt {γ : Bag} {m : Int} (h : 0 < m) : takeR γ m < m := Int.emod_lt_of_pos _ h
theorem e_take (ab : Addr) (d : List Int) (k m : Int) (hm : 0 < m) (hd : 0 < d.length) : F__law_take ab (d, k) [.int m] = some (.ok (.sh (.int (takeR (d, k) m))) (d, k + 1)) := by
  show (if 0 < m ∧ 0 < d.length then _ else none) = _
  rw [if_pos ⟨hm, hd⟩]
theorem e_house (ab : Addr) (d : List Int) (k most : Int) (hm : 0 < most) (hd : 0 < d.length) : ∃ n left k', 1 ≤ n ∧ n ≤ most ∧ F__law_house ab (d, k) [.int most] = some (.ok (.sh (houseD n left)) (d, k')) := by
  refine ⟨1 + takeR (d, k) most, decide (takeR (d, k + 1) 2 = 0), k + 1 + 1, ?_, ?_, ?_⟩
  · have := takeR_nn (γ := (d, k)) hm
    omega
  · have := takeR_lt (γ := (d, k)) hm
    omega
  · refine runR_eq rfl ?_
    show toRes (g__law_house ab ⟨[.rw (.ref ab), .ar (.int most)], (d, k)⟩) = _
    have a1 := takeR_nn (γ := (d, k + 1)) (m := 2) (by decide)
    have a2 := takeR_lt (γ := (d, k + 1)) (m := 2) (by decide)
    have c := e_take ab d k most hm hd
    have c2 := e_take ab d (k + 1) 2 (by decide) hd
    generalize takeR (d, k + 1) 2 = t at *
    have : t = 0 ∨ t = 1 := by omega
    rcases this with rfl | rfl
    · simp [g__law_house, c, c2]
    · simp [g__law_house, c, c2]
theorem nodup_ins {l : List Int} {x : Int} {j : Nat} (h : l.Nodup) (hx : x ∉ l) : (l.take j ++ [x] ++ l.drop j).Nodup := by
  have p : (l.take j ++ [x] ++ l.drop j).Perm (x :: l) := by
    have := List.perm_middle (a := x) (l₁ := l.take j) (l₂ := l.drop j)
    rw [List.take_append_drop] at this
    simpa using this
  rw [p.nodup_iff]
  exact List.nodup_cons.mpr ⟨hx, h⟩
theorem mem_ins {l : List Int} {x y : Int} {j : Nat} : y ∈ l.take j ++ [x] ++ l.drop j ↔ y = x ∨ y ∈ l := by
  have p : (l.take j ++ [x] ++ l.drop j).Perm (x :: l) := by
    have := List.perm_middle (a := x) (l₁ := l.take j) (l₂ := l.drop j)
    rw [List.take_append_drop] at this
    simpa using this
  rw [p.mem_iff]
  exact List.mem_cons
theorem rng_get {lo : Int} {n i : Nat} {d : PyData} (h : (rng lo n)[i]? = some d) : i < n ∧ d = .int (lo + i) := by
  unfold rng at h
  rw [List.getElem?_map] at h
  obtain ⟨x, e, rfl⟩ := Option.map_eq_some_iff.mp h
  obtain ⟨h1, h2⟩ := List.getElem?_eq_some_iff.mp e
  simp at h1 h2
  subst h2
  exact ⟨h1, rfl⟩
theorem rng_len (lo : Int) (n : Nat) : (rng lo n).length = n := by simp [rng]
theorem e_mixed (ab : Addr) (d : List Int) (k : Int) (m : Nat) (hm : m ≤ 100000) (hd : 0 < d.length) : ∃ o k', F__law_mixed ab (d, k) [.int m] = some (.ok (.sh (.tuple (nsD o))) (d, k')) ∧ o.Nodup ∧ (∀ x ∈ o, 1 ≤ x ∧ x ≤ (m : Int)) ∧ o.length = m := by
  obtain ⟨τ', e, l, s3, k', rfl, h1, h2, h3⟩ := forGo_at (R := bagR ab) (set := setN 3) (gb := dIns 2 (dSh (dCallR bagR id ab F__law_take (dCons (dVar 0) (dCons (dBor 3) dNil)))) (dVar 3)) (ds := rng 1 m)
    (τ := ⟨[.rw (.ref ab), .ar (.int m), .ow [], .un], (d, k)⟩)
    (fun i τ => ∃ l s3 k', τ = ⟨[.rw (.ref ab), .ar (.int m), .ow (nsD l), s3], (d, k')⟩ ∧ l.Nodup ∧ (∀ x ∈ l, 1 ≤ x ∧ x ≤ (i : Int)) ∧ l.length = i) ⟨[], .un, k, rfl, List.nodup_nil, (fun _ h => by cases h), rfl⟩ fun i x τ hx ⟨l, s3, k', e, h1, h2, h3⟩ => by
    subst e
    obtain ⟨hi, rfl⟩ := rng_get hx
    have hp : (0 : Int) < 1 + i := by omega
    have a1 := takeR_nn (γ := (d, k')) hp
    have a2 := takeR_lt (γ := (d, k')) hp
    have c := e_take ab d k' (1 + i) hp hd
    generalize takeR (d, k') (1 + i) = t at *
    refine ⟨_, ⟨[.rw (.ref ab), .ar (.int m), .ow (nsD (l.take t.toNat ++ [1 + (i : Int)] ++ l.drop t.toNat)), .sh (.int (1 + i))], (d, k' + 1)⟩, rfl, .inl ?_, _, _, _, rfl, nodup_ins h1 fun z => ?_, fun y hy => ?_, ?_⟩
    · have b1 : l.length < sizeLine := smallL (by omega)
      have b2 : t < 9223372036854775808 := by omega
      simp [c, b1, a1, b2, -List.map_take, -List.map_drop]
      rw [List.map_take, List.map_drop]
    · have := (h2 _ z).2
      omega
    · rcases mem_ins.mp hy with rfl | hy
      · push_cast
        omega
      · have := h2 y hy
        push_cast
        omega
    · have p : (l.take t.toNat ++ [1 + (i : Int)] ++ l.drop t.toNat).Perm ((1 + (i : Int)) :: l) := by
        have := List.perm_middle (a := 1 + (i : Int)) (l₁ := l.take t.toNat) (l₂ := l.drop t.toNat)
        rw [List.take_append_drop] at this
        simpa using this
      rw [p.length_eq, List.length_cons, h3]
  rw [rng_len] at h2 h3
  refine ⟨l, k', ?_, h1, h2, h3⟩
  refine runR_eq rfl ?_
  show toRes (g__law_mixed ab ⟨[.rw (.ref ab), .ar (.int m), .un, .un], (d, k)⟩) = _
  have r1 : inR 1 := inR_of (by decide) (by decide)
  have r2 : inR ((m : Int) + 1) := inR_of (by omega) (by omega)
  have r3 : ((m : Int) + 1 - 1).toNat = m := by omega
  have s1 : dSet 2 (dLst dNil) (⟨[.rw (.ref ab), .ar (.int m), .un, .un], (d, k)⟩ : Tau (bagR ab)) = .ok (.nx ⟨[.rw (.ref ab), .ar (.int m), .ow [], .un], (d, k)⟩) := by simp
  have s2 : dRng2 (dCons (dC (.int 1)) (dCons (dOp fAdd (dBor 1) (dC (.int 1))) dNil)) (⟨[.rw (.ref ab), .ar (.int m), .ow [], .un], (d, k)⟩ : Tau (bagR ab)) = .ok (rng 1 m, ⟨[.rw (.ref ab), .ar (.int m), .ow [], .un], (d, k)⟩) := by
    have := rng2_ev (g := dCons (dC (.int 1)) (dCons (dOp fAdd (dBor 1) (dC (.int 1))) dNil)) (τ := (⟨[.rw (.ref ab), .ar (.int m), .ow [], .un], (d, k)⟩ : Tau (bagR ab))) (τ' := ⟨[.rw (.ref ab), .ar (.int m), .ow [], .un], (d, k)⟩) (i := 1) (j := m + 1) (by simp) r1 r2
    rw [r3] at this
    exact this
  rw [g__law_mixed, then_eq s1, then_eq ((for_eq s2).trans e)]
  simp
theorem e_comingL (ab : Addr) (d : List Int) (k n most : Int) (left : Bool) (hn : 1 ≤ n) (hn2 : n ≤ 60) (hm : 0 ≤ most) (hm2 : most ≤ 40) (hd : 0 < d.length) : ∃ o k', F__law_coming ab (d, k) [houseD n left, .int most] = some (.ok (.sh (.tuple (nsD o))) (d, k')) ∧ Ord n o ∧ (o.length : Int) ≤ most := by
  obtain ⟨o, k', c, h1, h2, h3⟩ := e_mixed ab d k n.toNat (by omega) hd
  have en : ((n.toNat : Nat) : Int) = n := Int.toNat_of_nonneg (by omega)
  rw [en] at c h2
  have hp : 0 < (if most < n then most else n) + 1 := by split <;> omega
  have a1 := takeR_nn (γ := (d, k')) hp
  have a2 := takeR_lt (γ := (d, k')) hp
  have c2 := e_take ab d k' _ hp hd
  have a3 : takeR (d, k') ((if most < n then most else n) + 1) ≤ 40 := by
    have hb : (if most < n then most else n) ≤ 40 := by split <;> omega
    exact Int.le_trans (Int.lt_add_one_iff.mp a2) hb
  refine ⟨o.take (takeR (d, k') ((if most < n then most else n) + 1)).toNat, k' + 1, ?_, ⟨h1.sublist (List.take_sublist _ _), fun x m => h2 x (List.mem_of_mem_take m), ?_⟩, ?_⟩
  · refine runR_eq rfl ?_
    show toRes (g__law_coming ab ⟨[.rw (.ref ab), .ar (houseD n left), .ar (.int most)], (d, k)⟩) = _
    generalize takeR (d, k') ((if most < n then most else n) + 1) = t at *
    simp [g__law_coming, c, c2, fSl, cut_toI _ _ a1, take_ns, -List.map_take]
  · rw [List.length_take]
    omega
  · have hb : (if most < n then most else n) ≤ most := by split <;> omega
    have a4 := Int.le_trans (Int.lt_add_one_iff.mp a2) hb
    rw [List.length_take]
    omega
theorem e_coming (ab : Addr) (d : List Int) (k n most : Int) (left : Bool) (hn : 1 ≤ n) (hn2 : n ≤ 60) (hm : 0 ≤ most) (hm2 : most ≤ 40) (hd : 0 < d.length) : ∃ o k', F__law_coming ab (d, k) [houseD n left, .int most] = some (.ok (.sh (.tuple (nsD o))) (d, k')) ∧ Ord n o := by
  obtain ⟨o, k', h1, h2, _⟩ := e_comingL ab d k n most left hn hn2 hm hm2 hd
  exact ⟨o, k', h1, h2⟩
end Kd
set_option Elab.async false
set_option linter.all false
set_option maxRecDepth 100000
set_option maxHeartbeats 4000000
namespace Kd
open PySem PySem.Spec L2 Kn
open PyProof.Rows hiding St
/-! the draws of a cell -/
def bodyD : DenS R0 := (dThen (dSet 5 (dOp fModI (dOp fAdd (dOp fAdd (dOp fAdd (dOp fMul (dBor 5) (dBor 5)) (dOp fMul (dC (.int 48271)) (dBor 5))) (dBor 6)) (dC (.int 1))) (dC (.int 2305843009213693951))))
    (dIfS (dAnd (dTest (dOp fGt (dBor 6) (dC (.int 2)))) (dTest (dOp fGt (dBor 4) (dC (.int 0))))) (dThen (dApp 3 (dSh (dOp fModI (dBor 4) (dBor 2))))
    (dSet 4 (dOp fDivI (dBor 4) (dBor 2)))) (dIfS (dTest (dOp fGt (dBor 6) (dC (.int 2)))) (dApp 3 (dSh (dOp fModI (dOp fDivI (dBor 5) (dC (.int 4096))) (dBor 2)))) dNx)))
abbrev sD (c : Int) (l : List Int) (rest st : Int) (s6 : Sl) : Tau R0 := ⟨[.ar (.int c), .ar (.int 400), .ar (.int 1000), .ow (nsD l), .sh (.int rest), .sh (.int st), s6], ()⟩
theorem bodyD_ev (c : Int) (l : List Int) (rest st k : Int) (h1 : 0 ≤ st) (h2 : st < 2305843009213693951) (hl : l.length < sizeLine) : ∃ l' rest' st', bodyD (sD c l rest st (.sh (.int k))) = .ok (.nx (sD c l' rest' st' (.sh (.int k)))) ∧ 0 ≤ st' ∧ st' < 2305843009213693951 ∧
    ((k ≤ 2 ∧ l' = l) ∨ (2 < k ∧ ∃ x, l' = l ++ [x] ∧ 0 ≤ x ∧ x < 1000)) := by
  have m1 := fMul_ok (i := st) (j := st) (.inl ⟨by omega, by omega⟩)
  have m2 := fMul_ok (i := 48271) (j := st) (.inl ⟨by decide, by decide⟩)
  have p : (0 : Int) < 2305843009213693951 := by decide
  have a1 := Int.emod_nonneg (st * st + 48271 * st + k + 1) (b := 2305843009213693951) (by decide)
  have a2 := Int.emod_lt_of_pos (st * st + 48271 * st + k + 1) p
  obtain ⟨st', hst⟩ : ∃ st', st' = (st * st + 48271 * st + k + 1) % 2305843009213693951 := ⟨_, rfl⟩
  rw [← hst] at a1 a2
  have e1 : dSet 5 (dOp fModI (dOp fAdd (dOp fAdd (dOp fAdd (dOp fMul (dBor 5) (dBor 5)) (dOp fMul (dC (.int 48271)) (dBor 5))) (dBor 6)) (dC (.int 1))) (dC (.int 2305843009213693951))) (sD c l rest st (.sh (.int k))) = .ok (.nx (sD c l rest st' (.sh (.int k)))) := by
    simp [m1, m2, hst]
  unfold bodyD
  rw [then_eq e1]
  by_cases q1 : 2 < k
  · by_cases q2 : 0 < rest
    · refine ⟨l ++ [rest % 1000], rest / 1000, st', ?_, a1, a2, .inr ⟨q1, _, rfl, Int.emod_nonneg _ (by decide), Int.emod_lt_of_pos _ (by decide)⟩⟩
      simp [q1, q2, hl]
    · refine ⟨l ++ [st' / 4096 % 1000], rest, st', ?_, a1, a2, .inr ⟨q1, _, rfl, Int.emod_nonneg _ (by decide), Int.emod_lt_of_pos _ (by decide)⟩⟩
      simp [q1, q2, hl]
  · refine ⟨l, rest, st', ?_, a1, a2, .inl ⟨by omega, rfl⟩⟩
    simp [q1]
theorem e_draws (c : Int) : ∃ l, F__law_draws [.int c, .int 400, .int 1000] = some (.ok (.fr (nsD l)) ()) ∧ isDraw l := by
  have a1 := Int.emod_nonneg c (b := 2305843009213693951) (by decide)
  have a2 := Int.emod_lt_of_pos c (b := 2305843009213693951) (by decide)
  have hp := fPow_ok (i := 10) (j := 18) ⟨by decide, by decide, by decide⟩
  obtain ⟨rest, st, s6, hs, hb1, hb2⟩ : ∃ rest st s6, dThen (dSet 3 (dLst dNil)) (dThen (dSet 4 (dOp fMul (dBor 0) (dCB fInt (dCons (dOp fGe (dBor 0) (dOp fPowI (dC (.int 10)) (dC (.int 18)))) dNil)))) (dSet 5 (dOp fModI (dBor 0) (dC (.int 2305843009213693951))))) ⟨[.ar (.int c), .ar (.int 400), .ar (.int 1000), .un, .un, .un, .un], ()⟩ = .ok (.nx (sD c [] rest st s6)) ∧ 0 ≤ st ∧ st < 2305843009213693951 := by
    have m1 := fMul_ok (i := c) (j := 1) (.inr ⟨by decide, by decide⟩)
    have m0 := fMul_ok (i := c) (j := 0) (.inr ⟨by decide, by decide⟩)
    generalize (10 : Int) ^ (18 : Int).toNat = X at *
    by_cases q : X ≤ c
    · refine ⟨c * 1, c % 2305843009213693951, .un, ?_, a1, a2⟩
      simp [hp, m1, q]
    · refine ⟨c * 0, c % 2305843009213693951, .un, ?_, a1, a2⟩
      simp [hp, m0, q]
  obtain ⟨τ', e, l, rest', st', s6', rfl, _, _, hl, hm⟩ := forGo_at (R := R0) (set := setN 6) (gb := bodyD) (ds := rng 0 403) (τ := sD c [] rest st s6)
    (fun i τ => ∃ l rest st s6, τ = sD c l rest st s6 ∧ 0 ≤ st ∧ st < 2305843009213693951 ∧ l.length = i - 3 ∧ ∀ x ∈ l, 0 ≤ x ∧ x < 1000) ⟨[], rest, st, s6, rfl, hb1, hb2, rfl, fun _ h => by cases h⟩ fun i d τ hd ⟨l, rest, st, s6, e, b1, b2, b3, b4⟩ => by
    subst e
    obtain ⟨hi, rfl⟩ := rng_get hd
    obtain ⟨l', rest', st', e1, c1, c2, c3⟩ := bodyD_ev c l rest st (0 + i) b1 b2 (smallL (by omega))
    refine ⟨sD c l rest st (.sh (.int (0 + i))), _, rfl, .inl e1, l', rest', st', _, rfl, c1, c2, ?_, ?_⟩
    · rcases c3 with ⟨k1, rfl⟩ | ⟨k1, x, rfl, _⟩
      · omega
      · rw [List.length_append, List.length_singleton]
        omega
    · rcases c3 with ⟨k1, rfl⟩ | ⟨k1, x, rfl, k2⟩
      · exact b4
      · intro y hy
        rcases List.mem_append.mp hy with hy | hy
        · exact b4 y hy
        · rw [List.mem_singleton] at hy
          subst hy
          exact k2
  rw [rng_len] at hl
  refine ⟨l, ?_, hl, hm⟩
  refine runF_eq rfl ?_
  show toRes (g__law_draws ⟨[.ar (.int c), .ar (.int 400), .ar (.int 1000), .un, .un, .un, .un], ()⟩) = _
  have s2 : dRng1 (dCons (dOp fAdd (dBor 1) (dC (.int 3))) dNil) (sD c [] rest st s6) = .ok (rng 0 403, sD c [] rest st s6) :=
    rng1_ev (j := 403) (by simp) (inR_of (by decide) (by decide))
  have eg : g__law_draws = dThen (dSet 3 (dLst dNil)) (dThen (dSet 4 (dOp fMul (dBor 0) (dCB fInt (dCons (dOp fGe (dBor 0) (dOp fPowI (dC (.int 10)) (dC (.int 18)))) dNil)))) (dThen (dSet 5 (dOp fModI (dBor 0) (dC (.int 2305843009213693951)))) (dThen (dFor (dRng1 (dCons (dOp fAdd (dBor 1) (dC (.int 3))) dNil)) (setN 6) bodyD) (dRet (dTake 3))))) := rfl
  have assoc : ∀ (a b c d : DenS R0) τ, dThen a (dThen b (dThen c d)) τ = dThen (dThen a (dThen b c)) d τ := fun a b c d τ => by
    unfold dThen
    cases a τ with
    | bad => rfl
    | exc e => rfl
    | ok f =>
      cases f with
      | nx τ' =>
        simp only [Out.bind_ok]
        cases b τ' with
        | bad => rfl
        | exc e => rfl
        | ok f => cases f <;> simp
      | _ => simp
  rw [eg, assoc, then_eq hs, then_eq ((for_eq s2).trans e)]
  simp
theorem e_dOf (c : Int) : F__law_draws [.int c, .int 400, .int 1000] = some (.ok (.fr (nsD (dOf c))) ()) ∧ isDraw (dOf c) := by
  obtain ⟨l, e, h⟩ := e_draws c
  have : dOf c = l := by
    unfold dOf
    rw [e]
    simp
  rw [this]
  exact ⟨e, h⟩
theorem e_cell (K : PySem.W.Frag) (p : Addr × List Int) (k : Int) (hk : 0 ≤ k) : F__law_cell_at K p () [.int k] = some (.ok (.sh (.int (p.2.getD k.toNat 0))) ()) := by
  refine runR_eq rfl ?_
  show toRes (g__law_cell_at K p ⟨[.rw (.ref p.1), .ar (.int k)], ()⟩) = _
  have e1 : fLenR p [.rw (.ref p.1)] = some (.sh (.int p.2.length)) := if_pos rfl
  by_cases q : k < p.2.length
  · have e2 : fIxR p (.rw (.ref p.1)) (.sh (.int k)) = some (.sh (.int (p.2.getD k.toNat 0))) := if_pos ⟨rfl, hk, q⟩
    simp [g__law_cell_at, e1, e2, q, -List.getD_eq_getElem?_getD]
  · have : p.2.getD k.toNat 0 = 0 := by
      rw [List.getD_eq_getElem?_getD, List.getElem?_eq_none (by omega)]
      rfl
    simp [g__law_cell_at, e1, q, this, -List.getD_eq_getElem?_getD]
theorem e_bag (K : PySem.W.Frag) (p : Addr × List Int) (k : Int) (hk : 0 ≤ k) : F__law_bag K p () [.int k] = some (.ok (.fr [.list (nsD (dOf (p.2.getD k.toNat 0))), .int 0]) ()) := by
  refine runR_eq rfl ?_
  show toRes (g__law_bag K p ⟨[.rw (.ref p.1), .ar (.int k)], ()⟩) = _
  have e1 := e_cell K p k hk
  have e2 := (e_dOf (p.2.getD k.toNat 0)).1
  generalize p.2.getD k.toNat 0 = c at *
  simp [g__law_bag, e1, e2]
theorem hit_bags (K : PySem.W.Frag) : HitBags K := by
  intro p lim h1 h2 h3
  have e1 : fLenR p [.rw (.ref p.1)] = some (.sh (.int p.2.length)) := if_pos rfl
  obtain ⟨j, hj⟩ : ∃ j, j = (if (if (p.2.length : Int) < lim then (p.2.length : Int) else lim) > 1 then (if (p.2.length : Int) < lim then (p.2.length : Int) else lim) else 1) := ⟨_, rfl⟩
  have hb : 1 ≤ j ∧ j ≤ 63 := by
    subst hj
    split <;> split <;> omega
  refine ⟨rng 0 j.toNat, ?_, ?_, fun d m => ?_⟩
  · refine rng1_ev (j := j) ?_ (inR_of (by omega) (by omega))
    show dCons _ dNil (⟨[.rw (.ref p.1), .ar (.int lim), .un], ()⟩ : Tau (scrR K p)) = .ok (_, ⟨[.rw (.ref p.1), .ar (.int lim), .un], ()⟩)
    simp [e1, hj]
  · rw [rng_len]
    omega
  · unfold rng at m
    obtain ⟨i, hi, rfl⟩ := List.mem_map.mp m
    refine ⟨(e_dOf _).2, ⟨[.rw (.ref p.1), .ar (.int lim), .sh (.int (0 + (i : Nat)))], ()⟩, ?_, rfl⟩
    have e2 := e_bag K p (0 + (i : Nat)) (by omega)
    show ge__law_bags K p _ = .ok (.fr [.list (nsD (dOf (p.2.getD (0 + ((i : Nat) : Int)).toNat 0))), .int 0], _)
    generalize dOf (p.2.getD (0 + ((i : Nat) : Int)).toNat 0) = l at *
    generalize (0 + ((i : Nat) : Int)) = kk at *
    simp [ge__law_bags, e2]
end Kd
set_option Elab.async false
set_option linter.all false
set_option maxRecDepth 100000
set_option maxHeartbeats 4000000
namespace Kd
open PySem PySem.Spec L2 Kn
open PyProof.Rows hiding St
/-! leave_numbers: slots row order leavings place seat -/
def g_leave_numbers : DenS R0 :=
    (dThen (dExpr (dCall F_need_order (dCons (dBor 0) (dCons (dBor 1) dNil))))
    (dThen (dIfS (dOr (dNot (dTest (dCall F_are_seats (dCons (dBor 0) (dCons (dBor 2) dNil))))) (dTest (dOp fNe (dCB fSortedA (dCons (dBor 2) dNil)) (dCB fSortedA (dCons (dBor 1) dNil))))) dNever dNx)
    (dRet (dLc (dEnum (dCons (dVar 2) dNil)) (setTup (setCons (setN 3) (setCons (setN 4) setNil))) dYes (dSh (dCB fLen (dCons (dCall F_passed (dCons (dBor 0) (dCons (dSl (dBor 2) (dPart (dOp fAdd (dBor 3) (dC (.int 1)))) dNoPart) (dCons (dBor 4) dNil)))) dNil))) [3, 4]))))
def F_leave_numbers : PFn := runF 5 3 g_leave_numbers
end Kd
set_option Elab.async false
set_option linter.all false
set_option maxRecDepth 100000
set_option maxHeartbeats 4000000
namespace Kd
open PySem PySem.Spec L2 Kn
open PyProof.Rows hiding St
theorem isort_of_perm {l m : List Int} (p : l.Perm m) : isort l = isort m := eq_isort ((isort_perm l).trans p) (isort_sorted l)
theorem pas_of_perm {left : Bool} {l m : List Int} {seat : Int} (p : l.Perm m) : pas left l seat = pas left m seat := by
  unfold pas
  rw [isort_of_perm (p.filter _), isort_of_perm (p.filter fun x => decide (seat < x))]
theorem pas_min (left : Bool) (there : List Int) (seat : Int) : (pas left there seat).length = min (there.filter fun x => decide (x < seat)).length (there.filter fun x => decide (seat < x)).length := by
  unfold pas
  simp only [isort_length]
  split
  · split <;> rw [isort_length] <;> omega
  · split <;> rw [isort_length] <;> omega
theorem two_sides (seat : Int) : ∀ there : List Int, (there.filter fun x => decide (x < seat)).length + (there.filter fun x => decide (seat < x)).length ≤ there.length
  | [] => by simp
  | x :: l => by
    have ih := two_sides seat l
    rw [List.filter_cons, List.filter_cons]
    by_cases h1 : x < seat
    · have h2 : ¬ seat < x := by omega
      simp only [h1, h2, decide_true, decide_false, if_true, Bool.false_eq_true, if_false, List.length_cons]
      omega
    · by_cases h2 : seat < x
      · simp only [h1, h2, decide_true, decide_false, if_true, Bool.false_eq_true, if_false, List.length_cons]
        omega
      · simp only [h1, h2, decide_false, Bool.false_eq_true, if_false, List.length_cons]
        omega
/-! the mirror -/
def mir (n x : Int) : Int := n + 1 - x
theorem mir_inj {n x y : Int} : mir n x = mir n y ↔ x = y := by
  unfold mir
  omega
theorem mem_mir {n x : Int} {l : List Int} : mir n x ∈ l.map (mir n) ↔ x ∈ l := by
  rw [List.mem_map]
  exact ⟨fun ⟨y, h, e⟩ => (mir_inj.mp e) ▸ h, fun h => ⟨x, h, rfl⟩⟩
theorem isort_mir (n : Int) (l : List Int) : isort (l.map (mir n)) = ((isort l).map (mir n)).reverse := by
  refine (eq_isort ?_ ?_).symm
  · exact (List.reverse_perm _).trans ((isort_perm l).map _)
  · rw [List.pairwise_reverse, List.pairwise_map]
    exact (isort_sorted l).imp fun {a b} h => by
      unfold mir
      omega
theorem filt_mir1 (n seat : Int) (l : List Int) : (l.map (mir n)).filter (fun x => decide (x < mir n seat)) = (l.filter fun x => decide (seat < x)).map (mir n) := by
  rw [List.filter_map]
  congr 1
  apply List.filter_congr
  intro x _
  show decide (mir n x < mir n seat) = _
  unfold mir
  congr 1
  apply propext
  omega
theorem filt_mir2 (n seat : Int) (l : List Int) : (l.map (mir n)).filter (fun x => decide (mir n seat < x)) = (l.filter fun x => decide (x < seat)).map (mir n) := by
  rw [List.filter_map]
  congr 1
  apply List.filter_congr
  intro x _
  show decide (mir n seat < mir n x) = _
  unfold mir
  congr 1
  apply propext
  omega
theorem pas_mir (n : Int) (left : Bool) (there : List Int) (seat : Int) : pas (!left) (there.map (mir n)) (mir n seat) = ((pas left there seat).map (mir n)).reverse := by
  unfold pas
  simp only [filt_mir1, filt_mir2, isort_mir, List.length_reverse, List.length_map]
  generalize isort (there.filter fun x => decide (x < seat)) = l
  generalize isort (there.filter fun x => decide (seat < x)) = r
  by_cases h : l.length = r.length
  · rw [if_pos h.symm, if_pos h]
    cases left <;> rfl
  · rw [if_neg (Ne.symm h), if_neg h]
    by_cases h2 : l.length < r.length
    · rw [if_pos h2, if_neg (by omega)]
    · rw [if_neg h2, if_pos (by omega)]
theorem gos_mir (n : Int) (left : Bool) (o : List Int) : gos (!left) (o.map (mir n)) = (gos left o).map fun r => (r.map (mir n)).reverse := by
  apply List.ext_getElem?
  intro i
  rw [List.getElem?_map]
  by_cases h : i < o.length
  · have e : o[i]? = some o[i] := List.getElem?_eq_getElem h
    have e2 : (o.map (mir n))[i]? = some (mir n o[i]) := by rw [List.getElem?_map, e]; rfl
    rw [gos_get e, gos_get e2, ← List.map_take, pas_mir]
    rfl
  · rw [List.getElem?_eq_none (by rw [gos_len, List.length_map]; omega), List.getElem?_eq_none (by rw [gos_len]; omega)]
    rfl
theorem nums_mir (n : Int) (left : Bool) (o : List Int) : nums (!left) (o.map (mir n)) = nums left o := by
  unfold nums
  rw [gos_mir, List.map_map]
  apply List.map_congr_left
  intro r _
  simp
theorem nums_get {left : Bool} {o : List Int} {i : Nat} {x : Int} (h : o[i]? = some x) : (nums left o)[i]? = some ((pas left (o.take i) x).length : Int) := by
  unfold nums
  rw [List.getElem?_map, gos_get h]
  rfl
theorem nums_len (left : Bool) (o : List Int) : (nums left o).length = o.length := by
  unfold nums
  rw [List.length_map, gos_len]
theorem nums_side (left right : Bool) (o : List Int) : nums left o = nums right o := by
  apply List.ext_getElem?
  intro i
  by_cases h : i < o.length
  · have e : o[i]? = some o[i] := List.getElem?_eq_getElem h
    rw [nums_get e, nums_get e, pas_min, pas_min]
  · rw [List.getElem?_eq_none (by rw [nums_len]; omega), List.getElem?_eq_none (by rw [nums_len]; omega)]
theorem cnt_mir (n : Int) (rows : List (List Int)) (s : Int) : cntF (rows.map fun r => (r.map (mir n)).reverse) (mir n s) = cntF rows s := by
  unfold cntF
  rw [List.filter_map, List.length_map]
  congr 2
  apply List.filter_congr
  intro r _
  show decide (mir n s ∈ (r.map (mir n)).reverse) = _
  congr 1
  rw [List.mem_reverse, mem_mir]
theorem stod_mir (n : Int) (left : Bool) (o : List Int) : stod (!left) (o.map (mir n)) = (stod left o).reverse.map fun p => (mir n p.1, p.2) := by
  unfold stod
  rw [isort_mir, gos_mir, ← List.map_reverse, List.map_map, ← List.map_reverse, List.map_map]
  apply List.map_congr_left
  intro s _
  show (mir n s, cntF _ (mir n s)) = (mir n s, cntF _ s)
  rw [cnt_mir]
theorem idx_mir (n x : Int) : ∀ o : List Int, idx (mir n x) (o.map (mir n)) = idx x o
  | [] => rfl
  | y :: o => by
    show (if mir n y = mir n x then 0 else idx (mir n x) (o.map (mir n)) + 1) = if y = x then 0 else idx x o + 1
    rw [idx_mir n x o]
    by_cases h : y = x
    · rw [if_pos h, if_pos (mir_inj.mpr h)]
    · rw [if_neg h, if_neg fun z => h (mir_inj.mp z)]
theorem std_mir (n one two : Int) (left : Bool) (o : List Int) : mir n one ∈ pas (!left) ((o.map (mir n)).take (idx (mir n two) (o.map (mir n)))) (mir n two) ↔ one ∈ pas left (o.take (idx two o)) two := by
  rw [idx_mir, ← List.map_take, pas_mir, List.mem_reverse, mem_mir]
theorem idx_take {x : Int} : ∀ {o : List Int} {k : Nat}, x ∈ o.take k → idx x o < k
  | [], k, h => by simp at h
  | y :: o, 0, h => by simp at h
  | y :: o, k + 1, h => by
    show (if y = x then 0 else idx x o + 1) < k + 1
    by_cases e : y = x
    · rw [if_pos e]
      omega
    · rw [if_neg e]
      rw [List.take_succ_cons] at h
      rcases List.mem_cons.mp h with h | h
      · exact absurd h.symm e
      · have := idx_take h
        omega
/-! sums -/
theorem sum_ind (r : List Int) : ∀ (L : List Int) (f : Int → Int), (L.map fun s => (if s ∈ r then 1 else 0) + f s).sum = ((L.filter fun s => decide (s ∈ r)).length : Int) + (L.map f).sum
  | [], f => by simp
  | s :: L, f => by
    rw [List.map_cons, List.sum_cons, sum_ind r L f, List.filter_cons, List.map_cons, List.sum_cons]
    by_cases h : s ∈ r
    · rw [if_pos h, if_pos (decide_eq_true h), List.length_cons]
      omega
    · rw [if_neg h, if_neg (by simpa using h)]
      omega
theorem same_len {l m : List Int} (hl : l.Nodup) (hm : m.Nodup) (h : ∀ x, x ∈ l ↔ x ∈ m) : l.length = m.length :=
  Nat.le_antisymm (nodup_len hl fun x hx => (h x).mp hx) (nodup_len hm fun x hx => (h x).mpr hx)
theorem sum_cnt {L : List Int} (hL : L.Nodup) : ∀ rows : List (List Int), (∀ r ∈ rows, r.Nodup ∧ ∀ x ∈ r, x ∈ L) → (L.map fun s => cntF rows s).sum = (rows.map fun r => (r.length : Int)).sum
  | [], _ => by
    induction L with
    | nil => rfl
    | cons s L ih =>
      rw [List.map_cons, List.sum_cons, ih (List.nodup_cons.mp hL).2 fun _ h => by cases h]
      rfl
  | r :: rows, h => by
    have e : ∀ s, cntF (r :: rows) s = (if s ∈ r then 1 else 0) + cntF rows s := fun s => by
      unfold cntF
      rw [List.filter_cons]
      by_cases m : s ∈ r
      · rw [if_pos m, if_pos (decide_eq_true m), List.length_cons]
        omega
      · rw [if_neg m, if_neg (by simpa using m)]
        omega
    have e2 : (L.map fun s => cntF (r :: rows) s) = L.map fun s => (if s ∈ r then 1 else 0) + cntF rows s := List.map_congr_left fun s _ => e s
    obtain ⟨h1, h2⟩ := h r List.mem_cons_self
    rw [e2, sum_ind, sum_cnt hL rows fun x m => h x (List.mem_cons_of_mem _ m), List.map_cons, List.sum_cons]
    congr 1
    rw [same_len (hL.filter _) h1 fun x => ?_]
    rw [List.mem_filter, decide_eq_true_eq]
    exact ⟨fun z => z.2, fun z => ⟨h2 x z, z⟩⟩
theorem sum_stod {left : Bool} {o : List Int} (h : o.Nodup) : (nums left o).sum = ((stod left o).map fun p => p.2).sum := by
  unfold nums stod
  rw [List.map_map, ← sum_cnt (isort_nodup h) (gos left o) fun r m => ⟨gos_nodup h r m, fun x hx => mem_isort.mpr (gos_sub r m x hx)⟩]
  rfl
/-! who leaves -/
def lvn (left : Bool) (lv : List Int) : List Int := (List.range lv.length).map fun i => ((pas left (lv.drop (i + 1)) (lv.getD i 0)).length : Int)
theorem lvn_rev (left : Bool) (o : List Int) : lvn left o.reverse = (nums left o).reverse := by
  unfold lvn
  apply List.ext_getElem?
  intro i
  rw [List.getElem?_map, List.length_reverse]
  by_cases h : i < o.length
  · have h2 : o.length - 1 - i < o.length := by omega
    have e : o[o.length - 1 - i]? = some o[o.length - 1 - i] := List.getElem?_eq_getElem h2
    have e3 : o.reverse.getD i 0 = o[o.length - 1 - i] := by
      rw [List.getD_eq_getElem?_getD, List.getElem?_reverse h, e]
      rfl
    have e4 : o.reverse.drop (i + 1) = (o.take (o.length - 1 - i)).reverse := by
      rw [List.drop_reverse]
      congr 2
      omega
    rw [List.getElem?_range h, List.getElem?_reverse (by rw [nums_len]; exact h), nums_len, nums_get e]
    simp only [Option.map_some]
    rw [e3, e4, pas_of_perm (List.reverse_perm _)]
  · rw [List.getElem?_eq_none (by rw [List.length_range]; omega), List.getElem?_eq_none (by rw [List.length_reverse, nums_len]; omega)]
    rfl
/-! one more at the beginning -/
theorem more_one {left : Bool} {l : List Int} {x seat : Int} (h : x ≠ seat) : (pas left (x :: l) seat).length = (pas left l seat).length ∨ (pas left (x :: l) seat).length = (pas left l seat).length + 1 := by
  rw [pas_min, pas_min, List.filter_cons, List.filter_cons]
  by_cases h1 : x < seat
  · have h2 : ¬ seat < x := by omega
    simp only [h1, h2, decide_true, decide_false, if_true, Bool.false_eq_true, if_false, List.length_cons]
    omega
  · have h2 : seat < x := by omega
    simp only [h1, h2, decide_true, decide_false, if_true, Bool.false_eq_true, if_false, List.length_cons]
    omega
theorem cut_from {α : Type} (xs : List α) (k : Nat) : cutL xs (some (k : Int)) none = xs.drop k := by
  unfold cutL
  rw [HT.sIx_none, HT.sIx_nat]
  by_cases h : k ≤ xs.length
  · rw [Nat.min_eq_left h, List.take_of_length_le (by rw [List.length_drop]; omega)]
  · rw [Nat.min_eq_right (by omega), List.drop_of_length_le (Nat.le_refl _), List.drop_of_length_le (by omega)]
    simp
theorem drop_ns (ns : List Int) (k : Nat) : (nsD ns).drop k = nsD (ns.drop k) := List.map_drop.symm
theorem e_leave (n : Int) (left : Bool) (o lv : List Int) (h1 : 1 ≤ n) (h2 : n ≤ 60) (h : Ord n o) (h' : Ord n lv) (p : lv.Perm o) : F_leave_numbers [houseD n left, .tuple (nsD o), .tuple (nsD lv)] = some (.ok (.fr (nsD (lvn left lv))) ()) := by
  refine runF_eq rfl ?_
  show toRes (g_leave_numbers ⟨[.ar (houseD n left), .ar (.tuple (nsD o)), .ar (.tuple (nsD lv)), .un, .un], ()⟩) = _
  have hz : lv.length ≤ 100000 := by have := h'.ln; omega
  have hl := lcGo_mapA (R := R0) (set := setTup (setCons (setN 3) (setCons (setN 4) setNil))) (ge := dSh (dCB fLen (dCons (dCall F_passed (dCons (dBor 0) (dCons (dSl (dBor 2) (dPart (dOp fAdd (dBor 3) (dC (.int 1)))) dNoPart) (dCons (dBor 4) dNil)))) dNil))) (vs := [3, 4]) (τ := ⟨[.ar (houseD n left), .ar (.tuple (nsD o)), .ar (.tuple (nsD lv)), .un, .un], ()⟩)
    (fun i : Nat => .tuple [.int (0 + i : Nat), .int (lv.getD i 0)]) (fun i => .int ((pas left (lv.drop (i + 1)) (lv.getD i 0)).length : Int)) (List.range lv.length) fun i hi => by
    refine ⟨⟨[.ar (houseD n left), .ar (.tuple (nsD o)), .ar (.tuple (nsD lv)), .sh (.int (0 + i : Nat)), .sh (.int (lv.getD i 0))], ()⟩, rfl, ?_, rfl⟩
    have l0 : (lv.drop (i + 1)).length ≤ 100000 := by rw [List.length_drop]; omega
    have c := e_passed n left (lv.drop (i + 1)) (lv.getD i 0) l0
    have e1 : cutL (nsD lv) (some ((i : Int) + 1)) none = nsD (lv.drop (i + 1)) := by
      have := cut_from (nsD lv) (i + 1)
      rw [drop_ns] at this
      exact this
    simp [fSl, e1, c, -List.map_drop, -List.getD_eq_getElem?_getD]
  rw [← enum_ns] at hl
  have e2 : (List.range lv.length).map (fun i => PyData.int ((pas left (lv.drop (i + 1)) (lv.getD i 0)).length : Int)) = nsD (lvn left lv) := by
    unfold lvn
    show _ = List.map _ (List.map _ _)
    rw [List.map_map]
    rfl
  rw [e2] at hl
  have hs : (enumD 0 (nsD lv)).length ≤ sizeLine := small' (by rw [enum_ns]; simpa using hz)
  have es : isort lv = isort o := isort_of_perm p
  have fn : fNe (.fr (nsD (isort o))) (.fr (nsD (isort o))) = some (.sh (.bool false)) := by
    rw [fNe_ok (d := .list (nsD (isort o))) (e := .list (nsD (isort o))) rfl rfl (SH.list SH.nsD) (SH.list SH.nsD), eqv_self (SH.list SH.nsD)]
    rfl
  simp [g_leave_numbers, e_need_order n left o h1 h2 h, e_are_seats n left lv h', es, fn, hl, hs]
theorem Ord.perm {n : Int} {o o' : List Int} (h : Ord n o) (p : o'.Perm o) : Ord n o' := ⟨p.nodup_iff.mpr h.nd, fun i m => h.rg i (p.mem_iff.mp m), by rw [p.length_eq]; exact h.ln⟩
theorem Ord.mir {n : Int} {o : List Int} (h : Ord n o) : Ord n (o.map (mir n)) := by
  refine ⟨?_, fun i m => ?_, by rw [List.length_map]; exact h.ln⟩
  · rw [List.nodup_iff_pairwise_ne, List.pairwise_map]
    exact (List.nodup_iff_pairwise_ne.mp h.nd).imp fun {a b} z e => z (mir_inj.mp e)
  · obtain ⟨x, hx, rfl⟩ := List.mem_map.mp m
    have := h.rg x hx
    unfold Kd.mir
    omega
/-! steps of a law's body -/
theorem stepN {R : Rsc} {n : Nat} {g h : DenS R} {τ τ1 : Tau R} (e : g τ = .ok (.nx τ1)) (k : ∃ τ', h τ1 = .ok (.nx τ') ∧ τ'.sl.length = n) : ∃ τ', dThen g h τ = .ok (.nx τ') ∧ τ'.sl.length = n := by
  rw [then_eq e]
  exact k
theorem lcGo_ones {R : Rsc} {α : Type} {set : SetD R} {gt : DenT R} {ge : Den R} {vs : List Nat} {τ : Tau R} (g : α → PyData) (p : α → Bool) (xs : List α)
    (h : ∀ x ∈ xs, ∃ τ1, set (g x) τ = some τ1 ∧ gt τ1 = .ok (p x, τ1) ∧ ge τ1 = .ok (.sh (.int 1), τ1) ∧ τ1.wipe vs = τ) :
    ∃ ys, lcGo set gt ge vs (xs.map g) [] τ = .ok (ys, τ) ∧ ys.length = (xs.filter p).length := by
  suffices H : ∀ (xs : List α) (acc : List PyData), (∀ x ∈ xs, ∃ τ1, set (g x) τ = some τ1 ∧ gt τ1 = .ok (p x, τ1) ∧ ge τ1 = .ok (.sh (.int 1), τ1) ∧ τ1.wipe vs = τ) → ∃ ys, lcGo set gt ge vs (xs.map g) acc τ = .ok (ys, τ) ∧ ys.length = acc.length + (xs.filter p).length by
    obtain ⟨ys, e, l⟩ := H xs [] h
    exact ⟨ys, e, by simpa using l⟩
  intro xs
  induction xs with
  | nil => exact fun acc _ => ⟨acc, rfl, by simp⟩
  | cons x r ih =>
    intro acc h
    obtain ⟨τ1, e1, e2, e3, e4⟩ := h x List.mem_cons_self
    have hr := fun y m => h y (List.mem_cons_of_mem x m)
    cases q : p x with
    | false =>
      rw [q] at e2
      obtain ⟨ys, f1, f2⟩ := ih acc hr
      exact ⟨ys, by simp [lcGo, e1, e2, e4, f1], by rw [f2]; simp [q]⟩
    | true =>
      rw [q] at e2
      obtain ⟨ys, f1, f2⟩ := ih (acc ++ [.int 1]) hr
      exact ⟨ys, by simp [lcGo, e1, e2, e3, e4, f1], by rw [f2]; simp [q]; omega⟩
theorem SH.nss {rs : List (List Int)} : ∀ d ∈ nssD rs, SH 2 d := fun d m => by
  obtain ⟨r, _, rfl⟩ := List.mem_map.mp m
  exact SH.list SH.nsD
theorem SH.pr {ps : List (Int × Int)} : ∀ d ∈ prD ps, SH 2 d := fun d m => by
  obtain ⟨r, _, rfl⟩ := List.mem_map.mp m
  exact SH.tup fun x hx => by
    rcases List.mem_cons.mp hx with rfl | hx
    · exact .int
    · rw [List.mem_singleton] at hx
      subst hx
      exact .int
theorem if_no {R : Rsc} {t : DenT R} {g : DenS R} {τ τ1 : Tau R} (e : t τ = .ok (false, τ1)) : dIfS t g dNx τ = .ok (.nx τ1) := by
  simp [e]
theorem or_no {R : Rsc} {t u : DenT R} {τ τ1 τ2 : Tau R} (e : t τ = .ok (false, τ1)) (e2 : u τ1 = .ok (false, τ2)) : dOr t u τ = .ok (false, τ2) := by
  simp [e, e2]
theorem neS {R : Rsc} {ga gb : Den R} {τ τ1 τ2 : Tau R} {a b : Val} {d : PyData} {k : Nat} (e1 : ga τ = .ok (a, τ1)) (e2 : gb τ1 = .ok (b, τ2)) (h1 : a.data = some d) (h2 : b.data = some d) (h : SH k d) (hk : k ≤ 64 := by decide) : dTest (dOp fNe ga gb) τ = .ok (false, τ2) := by
  have e3 := fNe_ok h1 h2 h h hk hk
  rw [eqv_self h] at e3
  simp [e1, e2, e3]
@[simp] theorem ev_fNeg (i : Int) : fNeg (.sh (.int i)) = some (.sh (.int (-i))) := rfl
theorem lcGo_none {R : Rsc} {set : SetD R} {gt : DenT R} {ge : Den R} {vs : List Nat} {τ : Tau R} (ds : List PyData)
    (h : ∀ d ∈ ds, ∃ τ1, set d τ = some τ1 ∧ gt τ1 = .ok (false, τ1) ∧ τ1.wipe vs = τ) : lcGo set gt ge vs ds [] τ = .ok ([], τ) := by
  have := lcGo_eq (R := R) (set := set) (gt := gt) (ge := ge) (vs := vs) (τ := τ) (fun _ => none) ds [] fun d m => by
    obtain ⟨τ1, e1, e2, e3⟩ := h d m
    exact ⟨τ1, e1, .inl ⟨τ1, e2, e3, rfl⟩⟩
  rw [this]
  simp
end Kd
set_option Elab.async false
set_option linter.all false
set_option maxRecDepth 100000
set_option maxHeartbeats 1000000
namespace K14
open PySem PySem.Spec L2 Kn Kd
open PyProof.Rows hiding St
def topS (i : Nat) : Stmt := PySem.Challenge.pw_kneesaside_k14_whole_rows_kept_and_order.main.body.getD i (.Pass ⟨0, 0, 0, 0⟩)
def clsS (i j : Nat) : Stmt := match topS i with
  | .ClassDef _ _ _ body _ _ _ _ _ _ _ => body.getD j (.Pass ⟨0, 0, 0, 0⟩)
  | _ => .Pass ⟨0, 0, 0, 0⟩
abbrev L__law_draws : Nat := 1
abbrev st__law_draws : Stmt := topS 26
theorem sc__law_draws : FnScope ["cell", "many", "size", "found", "rest", "stirred", "k"] ["cell", "many", "size"] (defScope st__law_draws) := ⟨rfl, rfl, rfl, by decide +kernel, rfl, by decide +kernel, by decide +kernel⟩
section
variable {P : Program} {w : World} {K : PySem.W.Frag} {mg : Str → Option Value} {base : Heap}
theorem cal__law_draws {a : Addr} {fd : FuncData} (bi : BI mg) (Fu : Fun K "_law_draws" "_law_draws" st__law_draws a fd) (gm : mg "_law_draws" = some (.ref a))  : Cal P w K mg base "_law_draws" L__law_draws F__law_draws :=
  Cal.of (k := L__law_draws - 1) (fn_P Fu sc__law_draws g__law_draws hl_runF (fun cdv A outer s S H E hr => ⟨_,
    (dss_cons (ds_set (i := 3) sc__law_draws.nd rfl (by first | exact .inl rfl | exact .inr rfl) (de_lst da_nil))
      (dss_cons (ds_set (i := 4) sc__law_draws.nd rfl (by first | exact .inl rfl | exact .inr rfl) (de_mul (de_bor 0) (de_cty call_int1 s_int (by rfl) bi.int_ (by decide +kernel) (da_cons (de_cmp op_ge s_ge (de_bor 0) (de_pow de_int de_int) (nomark _)) da_nil))))
      (dss_cons (ds_set (i := 5) sc__law_draws.nd rfl (by first | exact .inl rfl | exact .inr rfl) (de_mod (de_bor 0) de_int))
      (dss_cons (ds_for (passes_of rfl) rfl (di_range1 (by rfl) bi.range_ (da_cons (be_add (de_bor 1) de_int) da_nil)) (dg_name 6 sc__law_draws.nd rfl (by first | exact .inl rfl | exact .inr rfl)) (dss_cons (ds_set (i := 5) sc__law_draws.nd rfl (by first | exact .inl rfl | exact .inr rfl) (de_mod (be_add (be_add (be_add (de_mul (de_bor 5) (de_bor 5)) (de_mul de_int (de_bor 5))) (de_bor 6)) de_int) de_int))
      (dss_one (ds_if (DW.dt (dw_and (dt_cmp op_gt s_gt (de_bor 6) de_int (nomark _)) (dw_and1 (dt_cmp op_gt s_gt (de_bor 4) de_int (nomark _))))) (dss_cons (ds_append 3 (de_sh (de_mod (de_bor 4) (de_bor 2))))
      (dss_one (ds_set (i := 4) sc__law_draws.nd rfl (by first | exact .inl rfl | exact .inr rfl) (de_div (de_bor 4) (de_bor 2))))) (dss_one (ds_if (dt_cmp op_gt s_gt (de_bor 6) de_int (nomark _)) (dss_one (ds_append 3 (de_sh (de_mod (de_div (de_bor 5) de_int) (de_bor 2))))) dss_nil))))))
      (dss_one (ds_ret (de_take 3)))))))⟩) he_runF) gm Fu.kp (Fu.binds fun _ _ _ _ _ _ us hl => match us, hl with | [_, _, _], _ => rfl)
end
abbrev L__law_cell_at : Nat := 1
abbrev st__law_cell_at : Stmt := topS 25
theorem sc__law_cell_at : FnScope ["script", "k"] ["script", "k"] (defScope st__law_cell_at) := ⟨rfl, rfl, rfl, by decide +kernel, rfl, by decide +kernel, by decide +kernel⟩
section
variable {P : Program} {w : World} {K : PySem.W.Frag} {mg : Str → Option Value} {base : Heap}
theorem cal__law_cell_at {a : Addr} {fd : FuncData} (bi : BI mg) (Fu : Fun K "_law_cell_at" "_law_cell_at" st__law_cell_at a fd) (gm : mg "_law_cell_at" = some (.ref a))  : CalR (scrR K) Prod.fst P w K mg base "_law_cell_at" L__law_cell_at (F__law_cell_at K) :=
  CalR.of (k := L__law_cell_at - 1) (fn_R Fu sc__law_cell_at (g__law_cell_at K) hl_runR (fun p cdv A outer s S H E hr => ⟨_,
    (dss_cons (ds_if (dt_cmp (op_ltA hr.units0) s_ltA (de_bor 1) (de_cb call_len_seq s_lenR (by rfl) bi.len_ PySem.boot_len (da_cons (de_var 0) da_nil)) (nomark _)) (dss_one (ds_ret (de_ixR (de_var 0) (de_bor 1)))) dss_nil)
      (dss_one (ds_ret de_int)))⟩) he_runR) gm Fu.kp (Fu.binds fun _ _ _ _ _ _ us hl => match us, hl with | [_, _], _ => rfl)
end
abbrev L__law_bag : Nat := 2
abbrev st__law_bag : Stmt := topS 27
theorem sc__law_bag : FnScope ["script", "k"] ["script", "k"] (defScope st__law_bag) := ⟨rfl, rfl, rfl, by decide +kernel, rfl, by decide +kernel, by decide +kernel⟩
section
variable {P : Program} {w : World} {K : PySem.W.Frag} {mg : Str → Option Value} {base : Heap}
theorem cal__law_bag {a : Addr} {fd : FuncData} (bi : BI mg) (Fu : Fun K "_law_bag" "_law_bag" st__law_bag a fd) (gm : mg "_law_bag" = some (.ref a)) (c__law_draws : Cal P w K mg base "_law_draws" L__law_draws F__law_draws) (c__law_cell_at : CalR (scrR K) Prod.fst P w K mg base "_law_cell_at" L__law_cell_at (F__law_cell_at K)) : CalR (scrR K) Prod.fst P w K mg base "_law_bag" L__law_bag (F__law_bag K) :=
  CalR.of (k := L__law_bag - 1) (fn_R Fu sc__law_bag (g__law_bag K) hl_runR (fun p cdv A outer s S H E hr => ⟨_,
    (dss_one (ds_ret (de_lst (da_cons (de_sh (de_cal c__law_draws (hr.mono (by decide)) (by rfl) (da_cons (de_calR (Rs := scrR K) (ad := Prod.fst) (i := p) c__law_cell_at (hr.mono (by decide)) (by rfl) (da_cons (de_var 0) (da_cons (de_bor 1) da_nil))) (da_cons de_int (da_cons de_int da_nil))))) (da_cons de_int da_nil)))))⟩) he_runR) gm Fu.kp (Fu.binds fun _ _ _ _ _ _ us hl => match us, hl with | [_, _], _ => rfl)
end
abbrev L__law_bags : Nat := 3
abbrev st__law_bags : Stmt := topS 28
theorem sc__law_bags : FnScope ["script", "limit", "k"] ["script", "limit"] (defScope st__law_bags) := ⟨rfl, rfl, rfl, by decide +kernel, rfl, by decide +kernel, by decide +kernel⟩
section
variable {P : Program} {w : World} {K : PySem.W.Frag} {mg : Str → Option Value} {base : Heap}
theorem cal__law_bags {a : Addr} {fd : FuncData} (bi : BI mg) (Fu : Fun K "_law_bags" "_law_bags" st__law_bags a fd) (gm : mg "_law_bags" = some (.ref a)) (c__law_bag : CalR (scrR K) Prod.fst P w K mg base "_law_bag" L__law_bag (F__law_bag K)) (hit : HitBags K) : CalBags P w K mg base "_law_bags" L__law_bags :=
  CalBags.of (k := L__law_bags - 1) (fn_bags Fu sc__law_bags rfl rfl (gi := gi__law_bags K) (ge := ge__law_bags K) drL (fun p cdv A outer s S H E hr => ⟨_,
    dbg_ret (own := [("k", 2)]) rfl sc__law_bags.nd (di_range1 (by rfl) bi.range_ (da_cons (de_cb (call_max2 rfl) s_2N (by rfl) bi.max_ (by decide +kernel) (da_cons de_int (da_cons (de_cb (call_min2 rfl) s_2N (by rfl) bi.min_ (by decide +kernel) (da_cons (de_bor 1) (da_cons (de_cb call_len_seq s_lenR (by rfl) bi.len_ PySem.boot_len (da_cons (de_var 0) da_nil)) da_nil))) da_nil))) da_nil)) (blkOk_by (N := ["script", "limit", "k"]) (sc := defScope st__law_bags) (by decide +kernel)) (fun _ _ _ _ _ => (dg_name 2 sc__law_bags.nd rfl (by first | exact .inl rfl | exact .inr rfl))) (fun _ _ _ _ _ => dts_nil) (fun _ _ _ _ _ => (de_calR (Rs := scrR K) (ad := Prod.fst) (i := p) c__law_bag (hr.mono (by decide)) (by rfl) (da_cons (de_var 0) (da_cons (de_bor 2) da_nil)))) (by decide)⟩) hit) gm Fu.kp (Fu.binds fun _ _ _ _ _ _ us hl => match us, hl with | [_, _], _ => rfl)
end
abbrev L__law_take : Nat := 1
abbrev st__law_take : Stmt := topS 29
theorem sc__law_take : FnScope ["bag", "many"] ["bag", "many"] (defScope st__law_take) := ⟨rfl, rfl, rfl, by decide +kernel, rfl, by decide +kernel, by decide +kernel⟩
section
variable {P : Program} {w : World} {K : PySem.W.Frag} {mg : Str → Option Value} {base : Heap}
theorem cal__law_take {a : Addr} {fd : FuncData} (bi : BI mg) (Fu : Fun K "_law_take" "_law_take" st__law_take a fd) (gm : mg "_law_take" = some (.ref a)) : CalR bagR id P w K mg base "_law_take" L__law_take F__law_take :=
  CalR.of (k := 0) (ps := ["bag", "many"]) (by
    refine okN Fu sc__law_take (fun vs H Q E h => ?_) (fun cdv A outer s H vs Q E hr h => ?_)
    · obtain ⟨ab, ws, S, γ, ds, r, e0, _, _, _, ha, e, _⟩ := h
      obtain ⟨m, rfl⟩ : ∃ m, ds = [PyData.int m] := by
        match ds, e with
        | [.int m], _ => exact ⟨m, rfl⟩
      rw [e0, List.length_append, Paired.length ha]
      rfl
    · obtain ⟨ab, h⟩ := h
      exact ⟨_, pss_cons (ps_asg (pe_op op_add (pe_ix ix_list (pv 0) pe_int (fun _ _ => rfl)) pe_int) (pg_sub (pv 0) pe_int set_list)) (pss_one (ps_ret (pe_op op_mod (pe_ix ix_list (pe_ix ix_list (pv 0) pe_int (fun _ _ => rfl)) (pe_op op_mod (pe_ix ix_list (pv 0) pe_int (fun _ _ => rfl)) (pe_callB call_len_seq (by rfl) bi.len_ PySem.boot_len (pa_cons (pe_ix ix_list (pv 0) pe_int (fun _ _ => rfl)) pa_nil))) (fun _ _ => rfl)) (pv 1)))), take_fn rfl h⟩) gm Fu.kp (Fu.binds fun _ _ _ _ _ _ us hl => match us, hl with | [_, _], _ => rfl)
end
abbrev L__law_house : Nat := 2
abbrev st__law_house : Stmt := topS 31
theorem sc__law_house : FnScope ["bag", "most"] ["bag", "most"] (defScope st__law_house) := ⟨rfl, rfl, rfl, by decide +kernel, rfl, by decide +kernel, by decide +kernel⟩
section
variable {P : Program} {w : World} {K : PySem.W.Frag} {mg : Str → Option Value} {base : Heap}
theorem cal__law_house {a : Addr} {fd : FuncData} (bi : BI mg) (Fu : Fun K "_law_house" "_law_house" st__law_house a fd) (gm : mg "_law_house" = some (.ref a)) (c__law_take : CalR bagR id P w K mg base "_law_take" L__law_take F__law_take) : CalR bagR id P w K mg base "_law_house" L__law_house F__law_house :=
  CalR.of (k := L__law_house - 1) (fn_R Fu sc__law_house g__law_house hl_runR (fun ab cdv A outer s S H E hr => ⟨_,
    (dss_one (ds_ret (de_tup (da_cons (de_sh (be_add de_int (de_calR (Rs := bagR) (ad := id) (i := ab) c__law_take (hr.mono (by decide)) (by rfl) (da_cons (de_var 0) (da_cons (de_bor 1) da_nil))))) (da_cons (de_sh (be_ix (de_lst (da_cons de_str (da_cons de_str da_nil))) (de_calR (Rs := bagR) (ad := id) (i := ab) c__law_take (hr.mono (by decide)) (by rfl) (da_cons (de_var 0) (da_cons de_int da_nil))))) da_nil)))))⟩) he_runR) gm Fu.kp (Fu.binds fun _ _ _ _ _ _ us hl => match us, hl with | [_, _], _ => rfl)
end
abbrev L__law_mixed : Nat := 2
abbrev st__law_mixed : Stmt := topS 30
theorem sc__law_mixed : FnScope ["bag", "many", "found", "one"] ["bag", "many"] (defScope st__law_mixed) := ⟨rfl, rfl, rfl, by decide +kernel, rfl, by decide +kernel, by decide +kernel⟩
section
variable {P : Program} {w : World} {K : PySem.W.Frag} {mg : Str → Option Value} {base : Heap}
theorem cal__law_mixed {a : Addr} {fd : FuncData} (bi : BI mg) (Fu : Fun K "_law_mixed" "_law_mixed" st__law_mixed a fd) (gm : mg "_law_mixed" = some (.ref a)) (c__law_take : CalR bagR id P w K mg base "_law_take" L__law_take F__law_take) : CalR bagR id P w K mg base "_law_mixed" L__law_mixed F__law_mixed :=
  CalR.of (k := L__law_mixed - 1) (fn_R Fu sc__law_mixed g__law_mixed hl_runR (fun ab cdv A outer s S H E hr => ⟨_,
    (dss_cons (ds_set (i := 2) sc__law_mixed.nd rfl (by first | exact .inl rfl | exact .inr rfl) (de_lst da_nil))
      (dss_cons (ds_for (passes_of rfl) rfl (di_range2 (by rfl) bi.range_ (da_cons de_int (da_cons (be_add (de_bor 1) de_int) da_nil))) (dg_name 3 sc__law_mixed.nd rfl (by first | exact .inl rfl | exact .inr rfl)) (dss_one (ds_insert 2 (de_sh (de_calR (Rs := bagR) (ad := id) (i := ab) c__law_take (hr.mono (by decide)) (by rfl) (da_cons (de_var 0) (da_cons (de_bor 3) da_nil)))) (de_var 3))))
      (dss_one (ds_ret (de_cty call_tupleF s_tuple (by rfl) bi.tuple_ (by decide +kernel) (da_cons (de_bor 2) da_nil))))))⟩) he_runR) gm Fu.kp (Fu.binds fun _ _ _ _ _ _ us hl => match us, hl with | [_, _], _ => rfl)
end
abbrev L__law_coming : Nat := 3
abbrev st__law_coming : Stmt := topS 32
theorem sc__law_coming : FnScope ["bag", "house", "most"] ["bag", "house", "most"] (defScope st__law_coming) := ⟨rfl, rfl, rfl, by decide +kernel, rfl, by decide +kernel, by decide +kernel⟩
section
variable {P : Program} {w : World} {K : PySem.W.Frag} {mg : Str → Option Value} {base : Heap}
theorem cal__law_coming {a : Addr} {fd : FuncData} (bi : BI mg) (Fu : Fun K "_law_coming" "_law_coming" st__law_coming a fd) (gm : mg "_law_coming" = some (.ref a)) (c__law_mixed : CalR bagR id P w K mg base "_law_mixed" L__law_mixed F__law_mixed) (c__law_take : CalR bagR id P w K mg base "_law_take" L__law_take F__law_take) : CalR bagR id P w K mg base "_law_coming" L__law_coming F__law_coming :=
  CalR.of (k := L__law_coming - 1) (fn_R Fu sc__law_coming g__law_coming hl_runR (fun ab cdv A outer s S H E hr => ⟨_,
    (dss_one (ds_ret (be_slice (de_calR (Rs := bagR) (ad := id) (i := ab) c__law_mixed (hr.mono (by decide)) (by rfl) (da_cons (de_var 0) (da_cons (be_ix (de_bor 1) de_int) da_nil))) do_none (do_some (de_calR (Rs := bagR) (ad := id) (i := ab) c__law_take (hr.mono (by decide)) (by rfl) (da_cons (de_var 0) (da_cons (be_add (de_cb (call_min2 rfl) s_2N (by rfl) bi.min_ (by decide +kernel) (da_cons (be_ix (de_bor 1) de_int) (da_cons (de_bor 2) da_nil))) de_int) da_nil)))))))⟩) he_runR) gm Fu.kp (Fu.binds fun _ _ _ _ _ _ us hl => match us, hl with | [_, _, _], _ => rfl)
end
abbrev L_Kept_stood : Nat := 1
abbrev st_Kept_stood : Stmt := clsS 23 9
theorem sc_Kept_stood : FnScope ["self"] ["self"] (defScope st_Kept_stood) := ⟨rfl, rfl, rfl, by decide +kernel, rfl, by decide +kernel, by decide +kernel⟩
/-! Kept_stood: slots self -/
def g_Kept_stood (C : Addr) (i : KA) : DenS (kepR C i) :=
    (dRet (dCB fList (dCons (dOp fIx (dKLast (Emb.self (kepR C i)) 0) (dC (.int 1))) dNil)))
def F_Kept_stood (C : Addr) : MFn C := runR (kepR C) KA.a 1 1 (g_Kept_stood C)
section
variable {P : Program} {w : World} {K : PySem.W.Frag} {mg : Str → Option Value} {base : Heap}
theorem cal_Kept_stood {a C : Addr} {fd : FuncData} (bi : BI mg) (kc : KC K C) (Fu : Fun K "stood" "Kept.stood" st_Kept_stood a fd) (hm : Meth K C "stood" a)  : CalM C P w K mg base "stood" L_Kept_stood (F_Kept_stood C) :=
  CalM.of (k := L_Kept_stood - 1) (fn_R Fu sc_Kept_stood (g_Kept_stood C) hl_runR (fun i cdv A outer s S H E hr => ⟨_,
    (dss_one (ds_ret (de_cty call_list_of s_list (by rfl) bi.list_ (by decide +kernel) (da_cons (be_ix (de_klast (B := ⟨kepR C i, S, H, E⟩) (Emb.self (kepR C i)) 0 kc) de_int) da_nil))))⟩) he_runR) hm (Fu.binds fun _ _ _ _ _ _ us hl => match us, hl with | [_], _ => rfl)
end
abbrev L_is_within : Nat := 1
abbrev st_is_within : Stmt := topS 10
theorem sc_is_within : FnScope ["thing", "low", "high"] ["thing", "low", "high"] (defScope st_is_within) := ⟨rfl, rfl, rfl, by decide +kernel, rfl, by decide +kernel, by decide +kernel⟩
section
variable {P : Program} {w : World} {K : PySem.W.Frag} {mg : Str → Option Value} {base : Heap}
theorem cal_is_within {a : Addr} {fd : FuncData} (bi : BI mg) (Fu : Fun K "is_within" "is_within" st_is_within a fd) (gm : mg "is_within" = some (.ref a))  : Cal P w K mg base "is_within" L_is_within F_is_within :=
  Cal.of (k := L_is_within - 1) (fn_P Fu sc_is_within g_is_within hl_runF (fun cdv A outer s S H E hr => ⟨_,
    (dss_one (ds_ret (de_and (de_cb call_isi (s_isi (T := "int")) (by rfl) bi.isinstance_ (by decide +kernel) (da_cons (de_bor 0) (da_cons (de_bltn (v := .ty "int") (by rfl) bi.int_ (by decide +kernel) rfl) da_nil))) (de_and (de_not (de_cb call_isi (s_isi (T := "bool")) (by rfl) bi.isinstance_ (by decide +kernel) (da_cons (de_bor 0) (da_cons (de_bltn (v := .ty "bool") (by rfl) bi.bool_ (by decide +kernel) rfl) da_nil)))) (de_one (de_chain op_le s_le op_le s_le (de_bor 1) (de_bor 0) (de_bor 2)))))))⟩) he_runF) gm Fu.kp (Fu.binds fun _ _ _ _ _ _ us hl => match us, hl with | [_, _, _], _ => rfl)
end
abbrev L_is_row : Nat := 2
abbrev st_is_row : Stmt := topS 11
theorem sc_is_row : FnScope ["thing"] ["thing"] (defScope st_is_row) := ⟨rfl, rfl, rfl, by decide +kernel, rfl, by decide +kernel, by decide +kernel⟩
section
variable {P : Program} {w : World} {K : PySem.W.Frag} {mg : Str → Option Value} {base : Heap}
theorem cal_is_row {a : Addr} {fd : FuncData} (bi : BI mg) (Fu : Fun K "is_row" "is_row" st_is_row a fd) (gm : mg "is_row" = some (.ref a)) (c_is_within : Cal P w K mg base "is_within" L_is_within F_is_within) : Cal P w K mg base "is_row" L_is_row F_is_row :=
  Cal.of (k := L_is_row - 1) (fn_P Fu sc_is_row g_is_row hl_runF (fun cdv A outer s S H E hr => ⟨_,
    (dss_cons (ds_if (DW.dt (dw_or (dt_not (dt_val (de_cb call_isi (s_isi (T := "tuple")) (by rfl) bi.isinstance_ (by decide +kernel) (da_cons (de_bor 0) (da_cons (de_bltn (v := .ty "tuple") (by rfl) bi.tuple_ (by decide +kernel) rfl) da_nil))))) (dw_or (dt_cmp (op_neD hr.units) s_ne (de_cb call_len_seq s_len (by rfl) bi.len_ PySem.boot_len (da_cons (de_bor 0) da_nil)) de_int (nomark _)) (dw_or1 (dt_not (dt_val (de_cal c_is_within (hr.mono (by decide)) (by rfl) (da_cons (be_ix (de_bor 0) de_int) (da_cons de_int (da_cons de_int da_nil)))))))))) (dss_one (ds_ret de_bl)) dss_nil)
      (dss_one (ds_ret (de_and (de_cb call_isi (s_isi (T := "str")) (by rfl) bi.isinstance_ (by decide +kernel) (da_cons (be_ix (de_bor 0) de_int) (da_cons (de_bltn (v := .ty "str") (by rfl) bi.str_ (by decide +kernel) rfl) da_nil))) (de_one (de_cmp (op_inA (u65 hr)) s_inA (be_ix (de_bor 0) de_int) (de_tup (da_cons de_str (da_cons de_str da_nil))) (by rfl)))))))⟩) he_runF) gm Fu.kp (Fu.binds fun _ _ _ _ _ _ us hl => match us, hl with | [_], _ => rfl)
end
abbrev L_need_row : Nat := 3
abbrev st_need_row : Stmt := topS 12
theorem sc_need_row : FnScope ["row"] ["row"] (defScope st_need_row) := ⟨rfl, rfl, rfl, by decide +kernel, rfl, by decide +kernel, by decide +kernel⟩
section
variable {P : Program} {w : World} {K : PySem.W.Frag} {mg : Str → Option Value} {base : Heap}
theorem cal_need_row {a : Addr} {fd : FuncData} (bi : BI mg) (Fu : Fun K "need_row" "need_row" st_need_row a fd) (gm : mg "need_row" = some (.ref a)) (c_is_row : Cal P w K mg base "is_row" L_is_row F_is_row) : Cal P w K mg base "need_row" L_need_row F_need_row :=
  Cal.of (k := L_need_row - 1) (fn_P Fu sc_need_row g_need_row hl_runF (fun cdv A outer s S H E hr => ⟨_,
    (dss_one (ds_if (dt_not (dt_val (de_cal c_is_row (hr.mono (by decide)) (by rfl) (da_cons (de_bor 0) da_nil)))) (dss_one ds_never) dss_nil))⟩) he_runF) gm Fu.kp (Fu.binds fun _ _ _ _ _ _ us hl => match us, hl with | [_], _ => rfl)
end
abbrev L_is_seat : Nat := 2
abbrev st_is_seat : Stmt := topS 13
theorem sc_is_seat : FnScope ["row", "thing"] ["row", "thing"] (defScope st_is_seat) := ⟨rfl, rfl, rfl, by decide +kernel, rfl, by decide +kernel, by decide +kernel⟩
section
variable {P : Program} {w : World} {K : PySem.W.Frag} {mg : Str → Option Value} {base : Heap}
theorem cal_is_seat {a : Addr} {fd : FuncData} (bi : BI mg) (Fu : Fun K "is_seat" "is_seat" st_is_seat a fd) (gm : mg "is_seat" = some (.ref a)) (c_is_within : Cal P w K mg base "is_within" L_is_within F_is_within) : Cal P w K mg base "is_seat" L_is_seat F_is_seat :=
  Cal.of (k := L_is_seat - 1) (fn_P Fu sc_is_seat g_is_seat hl_runF (fun cdv A outer s S H E hr => ⟨_,
    (dss_one (ds_ret (de_cal c_is_within (hr.mono (by decide)) (by rfl) (da_cons (de_bor 1) (da_cons de_int (da_cons (be_ix (de_bor 0) de_int) da_nil))))))⟩) he_runF) gm Fu.kp (Fu.binds fun _ _ _ _ _ _ us hl => match us, hl with | [_, _], _ => rfl)
end
abbrev L_are_seats : Nat := 3
abbrev st_are_seats : Stmt := topS 14
theorem sc_are_seats : FnScope ["row", "thing", "one"] ["row", "thing"] (defScope st_are_seats) := ⟨rfl, rfl, rfl, by decide +kernel, rfl, by decide +kernel, by decide +kernel⟩
section
variable {P : Program} {w : World} {K : PySem.W.Frag} {mg : Str → Option Value} {base : Heap}
theorem cal_are_seats {a : Addr} {fd : FuncData} (bi : BI mg) (Fu : Fun K "are_seats" "are_seats" st_are_seats a fd) (gm : mg "are_seats" = some (.ref a)) (c_is_seat : Cal P w K mg base "is_seat" L_is_seat F_is_seat) : Cal P w K mg base "are_seats" L_are_seats F_are_seats :=
  Cal.of (k := L_are_seats - 1) (fn_P Fu sc_are_seats g_are_seats hl_runF (fun cdv A outer s S H E hr => ⟨_,
    (dss_cons (ds_if (DW.dt (dw_or (dt_not (dt_val (de_cb call_isi (s_isi (T := "tuple")) (by rfl) bi.isinstance_ (by decide +kernel) (da_cons (de_bor 1) (da_cons (de_bltn (v := .ty "tuple") (by rfl) bi.tuple_ (by decide +kernel) rfl) da_nil))))) (dw_or (dt_cmp op_gt s_gt (de_cb call_len_seq s_len (by rfl) bi.len_ PySem.boot_len (da_cons (de_bor 1) da_nil)) de_int (nomark _)) (dw_or1 (dt_not (dt_val (de_cb (cr_all rfl) s_all (by rfl) bi.all_ (by decide +kernel) (da_cons (de_lc (own := [("one", 2)]) rfl sc_are_seats.nd (bi_seq (de_var 1)) (blkOk_by (N := ["row", "thing", "one"]) (sc := defScope st_are_seats) (by decide +kernel)) (fun _ _ _ _ _ => (dg_name 2 sc_are_seats.nd rfl (by first | exact .inl rfl | exact .inr rfl))) (fun _ _ _ _ _ => dts_nil) (fun _ _ _ _ _ => (de_sh (de_cal c_is_seat (hr.mono (by decide)) (by rfl) (da_cons (de_bor 0) (da_cons (de_bor 2) da_nil))))) (by decide)) da_nil)))))))) (dss_one (ds_ret de_bl)) dss_nil)
      (dss_one (ds_ret (de_cmp (op_eqD hr.units) s_eq (be_lenset (by rfl) bi.len_ (by rfl) bi.set_ (de_bor 1)) (de_cb call_len_seq s_len (by rfl) bi.len_ PySem.boot_len (da_cons (de_bor 1) da_nil)) (nomark _)))))⟩) he_runF) gm Fu.kp (Fu.binds fun _ _ _ _ _ _ us hl => match us, hl with | [_, _], _ => rfl)
end
abbrev L_need_order : Nat := 4
abbrev st_need_order : Stmt := topS 15
theorem sc_need_order : FnScope ["row", "order"] ["row", "order"] (defScope st_need_order) := ⟨rfl, rfl, rfl, by decide +kernel, rfl, by decide +kernel, by decide +kernel⟩
section
variable {P : Program} {w : World} {K : PySem.W.Frag} {mg : Str → Option Value} {base : Heap}
theorem cal_need_order {a : Addr} {fd : FuncData} (bi : BI mg) (Fu : Fun K "need_order" "need_order" st_need_order a fd) (gm : mg "need_order" = some (.ref a)) (c_need_row : Cal P w K mg base "need_row" L_need_row F_need_row) (c_are_seats : Cal P w K mg base "are_seats" L_are_seats F_are_seats) : Cal P w K mg base "need_order" L_need_order F_need_order :=
  Cal.of (k := L_need_order - 1) (fn_P Fu sc_need_order g_need_order hl_runF (fun cdv A outer s S H E hr => ⟨_,
    (dss_cons (ds_expr (de_cal c_need_row (hr.mono (by decide)) (by rfl) (da_cons (de_bor 0) da_nil)))
      (dss_one (ds_if (dt_not (dt_val (de_cal c_are_seats (hr.mono (by decide)) (by rfl) (da_cons (de_bor 0) (da_cons (de_bor 1) da_nil))))) (dss_one ds_never) dss_nil)))⟩) he_runF) gm Fu.kp (Fu.binds fun _ _ _ _ _ _ us hl => match us, hl with | [_, _], _ => rfl)
end
abbrev L_passed : Nat := 1
abbrev st_passed : Stmt := topS 16
theorem sc_passed : FnScope ["row", "there", "seat", "left", "right", "one"] ["row", "there", "seat"] (defScope st_passed) := ⟨rfl, rfl, rfl, by decide +kernel, rfl, by decide +kernel, by decide +kernel⟩
section
variable {P : Program} {w : World} {K : PySem.W.Frag} {mg : Str → Option Value} {base : Heap}
theorem cal_passed {a : Addr} {fd : FuncData} (bi : BI mg) (Fu : Fun K "passed" "passed" st_passed a fd) (gm : mg "passed" = some (.ref a))  : Cal P w K mg base "passed" L_passed F_passed :=
  Cal.of (k := L_passed - 1) (fn_P Fu sc_passed g_passed hl_runF (fun cdv A outer s S H E hr => ⟨_,
    (dss_cons (ds_set (i := 3) sc_passed.nd rfl (by first | exact .inl rfl | exact .inr rfl) (de_cb cr_sortedA s_sortedA (by rfl) bi.sorted_ (by decide +kernel) (da_cons (de_lc (own := [("one", 5)]) rfl sc_passed.nd (bi_seq (de_var 1)) (blkOk_by (N := ["row", "there", "seat", "left", "right", "one"]) (sc := defScope st_passed) (by decide +kernel)) (fun _ _ _ _ _ => (dg_name 5 sc_passed.nd rfl (by first | exact .inl rfl | exact .inr rfl))) (fun _ _ _ _ _ => (dts_one (dt_cmp (op_ltA hr.units0) s_ltA (de_bor 5) (de_bor 2) (nomark _)))) (fun _ _ _ _ _ => (de_var 5)) (by decide)) da_nil)))
      (dss_cons (ds_set (i := 4) sc_passed.nd rfl (by first | exact .inl rfl | exact .inr rfl) (de_cb cr_sortedA s_sortedA (by rfl) bi.sorted_ (by decide +kernel) (da_cons (de_lc (own := [("one", 5)]) rfl sc_passed.nd (bi_seq (de_var 1)) (blkOk_by (N := ["row", "there", "seat", "left", "right", "one"]) (sc := defScope st_passed) (by decide +kernel)) (fun _ _ _ _ _ => (dg_name 5 sc_passed.nd rfl (by first | exact .inl rfl | exact .inr rfl))) (fun _ _ _ _ _ => (dts_one (dt_cmp op_gt s_gt (de_bor 5) (de_bor 2) (nomark _)))) (fun _ _ _ _ _ => (de_var 5)) (by decide)) da_nil)))
      (dss_cons (ds_if (dt_cmp (op_neD hr.units) s_ne (de_cb call_len_seq s_len (by rfl) bi.len_ PySem.boot_len (da_cons (de_bor 3) da_nil)) (de_cb call_len_seq s_len (by rfl) bi.len_ PySem.boot_len (da_cons (de_bor 4) da_nil)) (nomark _)) (dss_one (ds_ret (de_if (dt_cmp (op_ltA hr.units0) s_ltA (de_cb call_len_seq s_len (by rfl) bi.len_ PySem.boot_len (da_cons (de_bor 3) da_nil)) (de_cb call_len_seq s_len (by rfl) bi.len_ PySem.boot_len (da_cons (de_bor 4) da_nil)) (nomark _)) (de_take 3) (de_take 4)))) dss_nil)
      (dss_one (ds_ret (de_if (dt_cmp (op_eqD hr.units) s_eq (be_ix (de_bor 0) de_int) de_str (nomark _)) (de_take 3) (de_take 4)))))))⟩) he_runF) gm Fu.kp (Fu.binds fun _ _ _ _ _ _ us hl => match us, hl with | [_, _, _], _ => rfl)
end
abbrev L_leave_numbers : Nat := 5
abbrev st_leave_numbers : Stmt := topS 21
theorem sc_leave_numbers : FnScope ["row", "order", "leavings", "place", "seat"] ["row", "order", "leavings"] (defScope st_leave_numbers) := ⟨rfl, rfl, rfl, by decide +kernel, rfl, by decide +kernel, by decide +kernel⟩
section
variable {P : Program} {w : World} {K : PySem.W.Frag} {mg : Str → Option Value} {base : Heap}
theorem cal_leave_numbers {a : Addr} {fd : FuncData} (bi : BI mg) (Fu : Fun K "leave_numbers" "leave_numbers" st_leave_numbers a fd) (gm : mg "leave_numbers" = some (.ref a)) (c_need_order : Cal P w K mg base "need_order" L_need_order F_need_order) (c_are_seats : Cal P w K mg base "are_seats" L_are_seats F_are_seats) (c_passed : Cal P w K mg base "passed" L_passed F_passed) : Cal P w K mg base "leave_numbers" L_leave_numbers F_leave_numbers :=
  Cal.of (k := L_leave_numbers - 1) (fn_P Fu sc_leave_numbers g_leave_numbers hl_runF (fun cdv A outer s S H E hr => ⟨_,
    (dss_cons (ds_expr (de_cal c_need_order (hr.mono (by decide)) (by rfl) (da_cons (de_bor 0) (da_cons (de_bor 1) da_nil))))
      (dss_cons (ds_if (DW.dt (dw_or (dt_not (dt_val (de_cal c_are_seats (hr.mono (by decide)) (by rfl) (da_cons (de_bor 0) (da_cons (de_bor 2) da_nil))))) (dw_or1 (dt_cmp (op_neD hr.units) s_ne (de_cb cr_sortedA s_sortedA (by rfl) bi.sorted_ (by decide +kernel) (da_cons (de_bor 2) da_nil)) (de_cb cr_sortedA s_sortedA (by rfl) bi.sorted_ (by decide +kernel) (da_cons (de_bor 1) da_nil)) (nomark _))))) (dss_one ds_never) dss_nil)
      (dss_one (ds_ret (de_lc (own := [("place", 3), ("seat", 4)]) rfl sc_leave_numbers.nd (bi_enum (by rfl) bi.enumerate_ (da_cons (de_var 2) da_nil)) (blkOk_by (N := ["row", "order", "leavings", "place", "seat"]) (sc := defScope st_leave_numbers) (by decide +kernel)) (fun _ _ _ _ _ => (bg_tup rfl (dgs_cons (dg_name 3 sc_leave_numbers.nd rfl (by first | exact .inl rfl | exact .inr rfl)) (dgs_cons (dg_name 4 sc_leave_numbers.nd rfl (by first | exact .inl rfl | exact .inr rfl)) dgs_nil)) (len_cons (len_cons len_nil)))) (fun _ _ _ _ _ => dts_nil) (fun _ _ _ _ _ => (de_sh (de_cb call_len_seq s_len (by rfl) bi.len_ PySem.boot_len (da_cons (de_cal c_passed (hr.mono (by decide)) (by rfl) (da_cons (de_bor 0) (da_cons (be_slice (de_bor 2) (do_some (be_add (de_bor 3) de_int)) do_none) (da_cons (de_bor 4) da_nil)))) da_nil)))) (by decide))))))⟩) he_runF) gm Fu.kp (Fu.binds fun _ _ _ _ _ _ us hl => match us, hl with | [_, _, _], _ => rfl)
end
abbrev L_Kept___init__ : Nat := 4
abbrev st_Kept___init__ : Stmt := clsS 23 0
theorem sc_Kept___init__ : FnScope ["self", "row"] ["self", "row"] (defScope st_Kept___init__) := ⟨rfl, rfl, rfl, by decide +kernel, rfl, by decide +kernel, by decide +kernel⟩
abbrev L_Kept___eq__ : Nat := 1
abbrev st_Kept___eq__ : Stmt := clsS 23 12
theorem sc_Kept___eq__ : FnScope ["self", "other"] ["self", "other"] (defScope st_Kept___eq__) := ⟨rfl, rfl, rfl, by decide +kernel, rfl, by decide +kernel, by decide +kernel⟩
abbrev L_Kept_sat : Nat := 1
abbrev st_Kept_sat : Stmt := clsS 23 1
theorem sc_Kept_sat : FnScope ["self"] ["self"] (defScope st_Kept_sat) := ⟨rfl, rfl, rfl, by decide +kernel, rfl, by decide +kernel, by decide +kernel⟩
/-! Kept_sat: slots self -/
def g_Kept_sat (C : Addr) (i : KA) : DenS (kepR C i) :=
    (dRet (dOp fIx (dKLast (Emb.self (kepR C i)) 0) (dC (.int 0))))
def F_Kept_sat (C : Addr) : MFn C := runR (kepR C) KA.a 1 1 (g_Kept_sat C)
section
variable {P : Program} {w : World} {K : PySem.W.Frag} {mg : Str → Option Value} {base : Heap}
theorem cal_Kept_sat {a C : Addr} {fd : FuncData} (bi : BI mg) (kc : KC K C) (Fu : Fun K "sat" "Kept.sat" st_Kept_sat a fd) (hm : Meth K C "sat" a)  : CalM C P w K mg base "sat" L_Kept_sat (F_Kept_sat C) :=
  CalM.of (k := L_Kept_sat - 1) (fn_R Fu sc_Kept_sat (g_Kept_sat C) hl_runR (fun i cdv A outer s S H E hr => ⟨_,
    (dss_one (ds_ret (be_ix (de_klast (B := ⟨kepR C i, S, H, E⟩) (Emb.self (kepR C i)) 0 kc) de_int)))⟩) he_runR) hm (Fu.binds fun _ _ _ _ _ _ us hl => match us, hl with | [_], _ => rfl)
end
abbrev L_Kept___len__ : Nat := 2
abbrev st_Kept___len__ : Stmt := clsS 23 11
theorem sc_Kept___len__ : FnScope ["self"] ["self"] (defScope st_Kept___len__) := ⟨rfl, rfl, rfl, by decide +kernel, rfl, by decide +kernel, by decide +kernel⟩
/-! Kept___len__: slots self -/
def g_Kept___len__ (C : Addr) (i : KA) : DenS (kepR C i) :=
    (dRet (dCB fLen (dCons (dMethE (Emb.self (kepR C i)) 0 (F_Kept_sat C) dNil) dNil)))
def F_Kept___len__ (C : Addr) : MFn C := runR (kepR C) KA.a 1 1 (g_Kept___len__ C)
section
variable {P : Program} {w : World} {K : PySem.W.Frag} {mg : Str → Option Value} {base : Heap}
theorem cal_Kept___len__ {a C : Addr} {fd : FuncData} (bi : BI mg) (kc : KC K C) (Fu : Fun K "__len__" "Kept.__len__" st_Kept___len__ a fd) (hm : Meth K C "__len__" a) (c_Kept_sat : CalM C P w K mg base "sat" L_Kept_sat (F_Kept_sat C)) : CalM C P w K mg base "__len__" L_Kept___len__ (F_Kept___len__ C) :=
  CalM.of (k := L_Kept___len__ - 1) (fn_R Fu sc_Kept___len__ (g_Kept___len__ C) hl_runR (fun i cdv A outer s S H E hr => ⟨_,
    (dss_one (ds_ret (de_cb call_len_seq s_len (by rfl) bi.len_ PySem.boot_len (da_cons (de_meth0 (B := ⟨kepR C i, S, H, E⟩) (Emb.self (kepR C i)) 0 kc c_Kept_sat (hr.mono (by decide))) da_nil))))⟩) he_runR) hm (Fu.binds fun _ _ _ _ _ _ us hl => match us, hl with | [_], _ => rfl)
end
abbrev L_Kept_need_seat : Nat := 3
abbrev st_Kept_need_seat : Stmt := clsS 23 3
theorem sc_Kept_need_seat : FnScope ["self", "seat"] ["self", "seat"] (defScope st_Kept_need_seat) := ⟨rfl, rfl, rfl, by decide +kernel, rfl, by decide +kernel, by decide +kernel⟩
/-! Kept_need_seat: slots self seat -/
def g_Kept_need_seat (C : Addr) (i : KA) : DenS (kepR C i) :=
    (dIfS (dNot (dTest (dCall F_is_seat (dCons (dKRow (Emb.self (kepR C i)) 0) (dCons (dBor 1) dNil))))) dNever dNx)
def F_Kept_need_seat (C : Addr) : MFn C := runR (kepR C) KA.a 2 2 (g_Kept_need_seat C)
section
variable {P : Program} {w : World} {K : PySem.W.Frag} {mg : Str → Option Value} {base : Heap}
theorem cal_Kept_need_seat {a C : Addr} {fd : FuncData} (bi : BI mg) (kc : KC K C) (Fu : Fun K "need_seat" "Kept.need_seat" st_Kept_need_seat a fd) (hm : Meth K C "need_seat" a) (c_is_seat : Cal P w K mg base "is_seat" L_is_seat F_is_seat) : CalM C P w K mg base "need_seat" L_Kept_need_seat (F_Kept_need_seat C) :=
  CalM.of (k := L_Kept_need_seat - 1) (fn_R Fu sc_Kept_need_seat (g_Kept_need_seat C) hl_runR (fun i cdv A outer s S H E hr => ⟨_,
    (dss_one (ds_if (dt_not (dt_val (de_cal c_is_seat (hr.mono (by decide)) (by rfl) (da_cons (de_krow (B := ⟨kepR C i, S, H, E⟩) (Emb.self (kepR C i)) 0 kc) (da_cons (de_bor 1) da_nil))))) (dss_one ds_never) dss_nil))⟩) he_runR) hm (Fu.binds fun _ _ _ _ _ _ us hl => match us, hl with | [_, _], _ => rfl)
end
abbrev L_Kept_goes : Nat := 2
abbrev st_Kept_goes : Stmt := clsS 23 2
theorem sc_Kept_goes : FnScope ["self", "seat", "after", "some", "stood", "one"] ["self", "seat", "after"] (defScope st_Kept_goes) := ⟨rfl, rfl, rfl, by decide +kernel, rfl, by decide +kernel, by decide +kernel⟩
/-! Kept_goes: slots self seat after some stood one -/
def g_Kept_goes (C : Addr) (i : KA) : DenS (kepR C i) :=
    (dThen (dSet 3 (dCall F_passed (dCons (dKRow (Emb.self (kepR C i)) 0) (dCons (dCB fTuple (dCons (dLc (dSeq (dSh (dMethE (Emb.self (kepR C i)) 0 (F_Kept_sat C) dNil))) (setN 5) (dTest (dOp fNe (dBor 5) (dBor 1))) (dVar 5) [5]) dNil)) (dCons (dBor 1) dNil)))))
    (dThen (dSet 4 (dCB fList (dCons (dOp fIx (dKLast (Emb.self (kepR C i)) 0) (dC (.int 1))) dNil)))
    (dThen (dFor (dSeq (dVar 3)) (setN 5) (dAugIx 4 (dOp fSubI (dBor 5) (dC (.int 1))) (dC (.int 1))))
    (dThen (dKApp (Emb.self (kepR C i)) 0 (dTup (dCons (dVar 2) (dCons (dSh (dCB fTuple (dCons (dBor 4) dNil))) dNil))))
    (dRet (dCB fTuple (dCons (dBor 3) dNil)))))))
def F_Kept_goes (C : Addr) : MFn C := runR (kepR C) KA.a 6 3 (g_Kept_goes C)
section
variable {P : Program} {w : World} {K : PySem.W.Frag} {mg : Str → Option Value} {base : Heap}
theorem cal_Kept_goes {a C : Addr} {fd : FuncData} (bi : BI mg) (kc : KC K C) (Fu : Fun K "goes" "Kept.goes" st_Kept_goes a fd) (hm : Meth K C "goes" a) (c_passed : Cal P w K mg base "passed" L_passed F_passed) (c_Kept_sat : CalM C P w K mg base "sat" L_Kept_sat (F_Kept_sat C)) : CalM C P w K mg base "goes" L_Kept_goes (F_Kept_goes C) :=
  CalM.of (k := L_Kept_goes - 1) (fn_R Fu sc_Kept_goes (g_Kept_goes C) hl_runR (fun i cdv A outer s S H E hr => ⟨_,
    (dss_cons (ds_set (i := 3) sc_Kept_goes.nd rfl (by first | exact .inl rfl | exact .inr rfl) (de_cal c_passed (hr.mono (by decide)) (by rfl) (da_cons (de_krow (B := ⟨kepR C i, S, H, E⟩) (Emb.self (kepR C i)) 0 kc) (da_cons (de_cty call_tupleF s_tuple (by rfl) bi.tuple_ (by decide +kernel) (da_cons (de_lc (own := [("one", 5)]) rfl sc_Kept_goes.nd (bi_seq (de_sh (de_meth0 (B := ⟨kepR C i, S, H, E⟩) (Emb.self (kepR C i)) 0 kc c_Kept_sat (hr.mono (by decide))))) (blkOk_by (N := ["self", "seat", "after", "some", "stood", "one"]) (sc := defScope st_Kept_goes) (by decide +kernel)) (fun _ _ _ _ _ => (dg_name 5 sc_Kept_goes.nd rfl (by first | exact .inl rfl | exact .inr rfl))) (fun _ _ _ _ _ => (dts_one (dt_cmp (op_neD hr.units) s_ne (de_bor 5) (de_bor 1) (nomark _)))) (fun _ _ _ _ _ => (de_var 5)) (by decide)) da_nil)) (da_cons (de_bor 1) da_nil)))))
      (dss_cons (ds_set (i := 4) sc_Kept_goes.nd rfl (by first | exact .inl rfl | exact .inr rfl) (de_cty call_list_of s_list (by rfl) bi.list_ (by decide +kernel) (da_cons (be_ix (de_klast (B := ⟨kepR C i, S, H, E⟩) (Emb.self (kepR C i)) 0 kc) de_int) da_nil)))
      (dss_cons (ds_for (passes_of rfl) rfl (bi_seq (de_var 3)) (dg_name 5 sc_Kept_goes.nd rfl (by first | exact .inl rfl | exact .inr rfl)) (dss_one (ds_augix 4 (de_sub (de_bor 5) de_int) de_int)))
      (dss_cons (ds_kapp (B := ⟨kepR C i, S, H, E⟩) (Emb.self (kepR C i)) 0 kc (de_tup (da_cons (de_var 2) (da_cons (de_sh (de_cty call_tupleF s_tuple (by rfl) bi.tuple_ (by decide +kernel) (da_cons (de_bor 4) da_nil))) da_nil))))
      (dss_one (ds_ret (de_cty call_tupleF s_tuple (by rfl) bi.tuple_ (by decide +kernel) (da_cons (de_bor 3) da_nil))))))))⟩) he_runR) hm (Fu.binds fun _ _ _ _ _ _ us hl => match us, hl with | [_, _, _], _ => rfl)
end
abbrev L_Kept_come : Nat := 4
abbrev st_Kept_come : Stmt := clsS 23 4
theorem sc_Kept_come : FnScope ["self", "seat"] ["self", "seat"] (defScope st_Kept_come) := ⟨rfl, rfl, rfl, by decide +kernel, rfl, by decide +kernel, by decide +kernel⟩
/-! Kept_come: slots self seat -/
def g_Kept_come (C : Addr) (i : KA) : DenS (kepR C i) :=
    (dThen (dExpr (dMethE (Emb.self (kepR C i)) 0 (F_Kept_need_seat C) (dCons (dBor 1) dNil)))
    (dThen (dIfS (dTest (dOp fInA (dBor 1) (dMethE (Emb.self (kepR C i)) 0 (F_Kept_sat C) dNil))) dNever dNx)
    (dRet (dMethE (Emb.self (kepR C i)) 0 (F_Kept_goes C) (dCons (dBor 1) (dCons (dCB fTuple (dCons (dCB fSortedA (dCons (dOp fAdd (dMethE (Emb.self (kepR C i)) 0 (F_Kept_sat C) dNil) (dTup (dCons (dVar 1) dNil))) dNil)) dNil)) dNil))))))
def F_Kept_come (C : Addr) : MFn C := runR (kepR C) KA.a 2 2 (g_Kept_come C)
section
variable {P : Program} {w : World} {K : PySem.W.Frag} {mg : Str → Option Value} {base : Heap}
theorem cal_Kept_come {a C : Addr} {fd : FuncData} (bi : BI mg) (kc : KC K C) (Fu : Fun K "come" "Kept.come" st_Kept_come a fd) (hm : Meth K C "come" a) (c_Kept_need_seat : CalM C P w K mg base "need_seat" L_Kept_need_seat (F_Kept_need_seat C)) (c_Kept_sat : CalM C P w K mg base "sat" L_Kept_sat (F_Kept_sat C)) (c_Kept_goes : CalM C P w K mg base "goes" L_Kept_goes (F_Kept_goes C)) : CalM C P w K mg base "come" L_Kept_come (F_Kept_come C) :=
  CalM.of (k := L_Kept_come - 1) (fn_R Fu sc_Kept_come (g_Kept_come C) hl_runR (fun i cdv A outer s S H E hr => ⟨_,
    (dss_cons (ds_expr (de_methE (B := ⟨kepR C i, S, H, E⟩) (Emb.self (kepR C i)) 0 kc c_Kept_need_seat (hr.mono (by decide)) (da_cons (de_bor 1) da_nil)))
      (dss_cons (ds_if (dt_cmp (op_inA (u65 hr)) s_inA (de_bor 1) (de_meth0 (B := ⟨kepR C i, S, H, E⟩) (Emb.self (kepR C i)) 0 kc c_Kept_sat (hr.mono (by decide))) (by rfl)) (dss_one ds_never) dss_nil)
      (dss_one (ds_ret (de_methE (B := ⟨kepR C i, S, H, E⟩) (Emb.self (kepR C i)) 0 kc c_Kept_goes (hr.mono (by decide)) (da_cons (de_bor 1) (da_cons (de_cty call_tupleF s_tuple (by rfl) bi.tuple_ (by decide +kernel) (da_cons (de_cb cr_sortedA s_sortedA (by rfl) bi.sorted_ (by decide +kernel) (da_cons (be_add (de_meth0 (B := ⟨kepR C i, S, H, E⟩) (Emb.self (kepR C i)) 0 kc c_Kept_sat (hr.mono (by decide))) (de_tup (da_cons (de_var 1) da_nil))) da_nil)) da_nil)) da_nil)))))))⟩) he_runR) hm (Fu.binds fun _ _ _ _ _ _ us hl => match us, hl with | [_, _], _ => rfl)
end
abbrev L_all_passed : Nat := 2
abbrev st_all_passed : Stmt := topS 17
theorem sc_all_passed : FnScope ["row", "order", "place", "seat"] ["row", "order"] (defScope st_all_passed) := ⟨rfl, rfl, rfl, by decide +kernel, rfl, by decide +kernel, by decide +kernel⟩
section
variable {P : Program} {w : World} {K : PySem.W.Frag} {mg : Str → Option Value} {base : Heap}
theorem cal_all_passed {a : Addr} {fd : FuncData} (bi : BI mg) (Fu : Fun K "all_passed" "all_passed" st_all_passed a fd) (gm : mg "all_passed" = some (.ref a)) (c_passed : Cal P w K mg base "passed" L_passed F_passed) : Cal P w K mg base "all_passed" L_all_passed F_all_passed :=
  Cal.of (k := L_all_passed - 1) (fn_P Fu sc_all_passed g_all_passed hl_runF (fun cdv A outer s S H E hr => ⟨_,
    (dss_one (ds_ret (de_lc (own := [("place", 2), ("seat", 3)]) rfl sc_all_passed.nd (bi_enum (by rfl) bi.enumerate_ (da_cons (de_var 1) da_nil)) (blkOk_by (N := ["row", "order", "place", "seat"]) (sc := defScope st_all_passed) (by decide +kernel)) (fun _ _ _ _ _ => (bg_tup rfl (dgs_cons (dg_name 2 sc_all_passed.nd rfl (by first | exact .inl rfl | exact .inr rfl)) (dgs_cons (dg_name 3 sc_all_passed.nd rfl (by first | exact .inl rfl | exact .inr rfl)) dgs_nil)) (len_cons (len_cons len_nil)))) (fun _ _ _ _ _ => dts_nil) (fun _ _ _ _ _ => (de_sh (de_cal c_passed (hr.mono (by decide)) (by rfl) (da_cons (de_bor 0) (da_cons (be_slice (de_bor 1) do_none (do_some (de_bor 2))) (da_cons (de_bor 3) da_nil)))))) (by decide))))⟩) he_runF) gm Fu.kp (Fu.binds fun _ _ _ _ _ _ us hl => match us, hl with | [_, _], _ => rfl)
end
abbrev L_numbers : Nat := 5
abbrev st_numbers : Stmt := topS 18
theorem sc_numbers : FnScope ["row", "order", "some"] ["row", "order"] (defScope st_numbers) := ⟨rfl, rfl, rfl, by decide +kernel, rfl, by decide +kernel, by decide +kernel⟩
section
variable {P : Program} {w : World} {K : PySem.W.Frag} {mg : Str → Option Value} {base : Heap}
theorem cal_numbers {a : Addr} {fd : FuncData} (bi : BI mg) (Fu : Fun K "numbers" "numbers" st_numbers a fd) (gm : mg "numbers" = some (.ref a)) (c_need_order : Cal P w K mg base "need_order" L_need_order F_need_order) (c_all_passed : Cal P w K mg base "all_passed" L_all_passed F_all_passed) : Cal P w K mg base "numbers" L_numbers F_numbers :=
  Cal.of (k := L_numbers - 1) (fn_P Fu sc_numbers g_numbers hl_runF (fun cdv A outer s S H E hr => ⟨_,
    (dss_cons (ds_expr (de_cal c_need_order (hr.mono (by decide)) (by rfl) (da_cons (de_bor 0) (da_cons (de_bor 1) da_nil))))
      (dss_one (ds_ret (de_lc (own := [("some", 2)]) rfl sc_numbers.nd (bi_seq (de_sh (de_cal c_all_passed (hr.mono (by decide)) (by rfl) (da_cons (de_bor 0) (da_cons (de_bor 1) da_nil))))) (blkOk_by (N := ["row", "order", "some"]) (sc := defScope st_numbers) (by decide +kernel)) (fun _ _ _ _ _ => (dg_name 2 sc_numbers.nd rfl (by first | exact .inl rfl | exact .inr rfl))) (fun _ _ _ _ _ => dts_nil) (fun _ _ _ _ _ => (de_sh (de_cb call_len_seq s_len (by rfl) bi.len_ PySem.boot_len (da_cons (de_bor 2) da_nil)))) (by decide)))))⟩) he_runF) gm Fu.kp (Fu.binds fun _ _ _ _ _ _ us hl => match us, hl with | [_, _], _ => rfl)
end
abbrev L_times_of : Nat := 3
abbrev st_times_of : Stmt := topS 19
theorem sc_times_of : FnScope ["row", "order", "found", "some", "seat"] ["row", "order"] (defScope st_times_of) := ⟨rfl, rfl, rfl, by decide +kernel, rfl, by decide +kernel, by decide +kernel⟩
section
variable {P : Program} {w : World} {K : PySem.W.Frag} {mg : Str → Option Value} {base : Heap}
theorem cal_times_of {a : Addr} {fd : FuncData} (bi : BI mg) (Fu : Fun K "times_of" "times_of" st_times_of a fd) (gm : mg "times_of" = some (.ref a)) (c_all_passed : Cal P w K mg base "all_passed" L_all_passed F_all_passed) : Cal P w K mg base "times_of" L_times_of F_times_of :=
  Cal.of (k := L_times_of - 1) (fn_P Fu sc_times_of g_times_of hl_runF (fun cdv A outer s S H E hr => ⟨_,
    (dss_cons (ds_set (i := 2) sc_times_of.nd rfl (by first | exact .inl rfl | exact .inr rfl) (de_cty (call_dictP rfl) s_dict (by rfl) bi.dict_ (by decide +kernel) (da_cons (de_lc (own := [("seat", 4)]) rfl sc_times_of.nd (bi_seq (de_sh (de_cb cr_sortedA s_sortedA (by rfl) bi.sorted_ (by decide +kernel) (da_cons (de_bor 1) da_nil)))) (blkOk_by (N := ["row", "order", "found", "some", "seat"]) (sc := defScope st_times_of) (by decide +kernel)) (fun _ _ _ _ _ => (dg_name 4 sc_times_of.nd rfl (by first | exact .inl rfl | exact .inr rfl))) (fun _ _ _ _ _ => dts_nil) (fun _ _ _ _ _ => (de_tup (da_cons (de_var 4) (da_cons de_int da_nil)))) (by decide)) da_nil)))
      (dss_cons (ds_for (passes_of rfl) rfl (bi_seq (de_sh (de_cal c_all_passed (hr.mono (by decide)) (by rfl) (da_cons (de_bor 0) (da_cons (de_bor 1) da_nil))))) (dg_name 3 sc_times_of.nd rfl (by first | exact .inl rfl | exact .inr rfl)) (dss_one (ds_for (passes_of rfl) rfl (bi_seq (de_var 3)) (dg_name 4 sc_times_of.nd rfl (by first | exact .inl rfl | exact .inr rfl)) (dss_one (ds_daug (hu_of hr) 2 (de_bor 4) de_int)))))
      (dss_one (ds_ret (de_take 2)))))⟩) he_runF) gm Fu.kp (Fu.binds fun _ _ _ _ _ _ us hl => match us, hl with | [_, _], _ => rfl)
end
abbrev L_times : Nat := 5
abbrev st_times : Stmt := topS 20
theorem sc_times : FnScope ["row", "order"] ["row", "order"] (defScope st_times) := ⟨rfl, rfl, rfl, by decide +kernel, rfl, by decide +kernel, by decide +kernel⟩
section
variable {P : Program} {w : World} {K : PySem.W.Frag} {mg : Str → Option Value} {base : Heap}
theorem cal_times {a : Addr} {fd : FuncData} (bi : BI mg) (Fu : Fun K "times" "times" st_times a fd) (gm : mg "times" = some (.ref a)) (c_need_order : Cal P w K mg base "need_order" L_need_order F_need_order) (c_times_of : Cal P w K mg base "times_of" L_times_of F_times_of) : Cal P w K mg base "times" L_times F_times :=
  Cal.of (k := L_times - 1) (fn_P Fu sc_times g_times hl_runF (fun cdv A outer s S H E hr => ⟨_,
    (dss_cons (ds_expr (de_cal c_need_order (hr.mono (by decide)) (by rfl) (da_cons (de_bor 0) (da_cons (de_bor 1) da_nil))))
      (dss_one (ds_ret (de_sortedItems rfl (de_cal c_times_of (hr.mono (by decide)) (by rfl) (da_cons (de_bor 0) (da_cons (de_bor 1) da_nil))) (by rfl) bi.sorted_ (by decide +kernel)))))⟩) he_runF) gm Fu.kp (Fu.binds fun _ _ _ _ _ _ us hl => match us, hl with | [_, _], _ => rfl)
end
abbrev L_Kept_back : Nat := 1
abbrev st_Kept_back : Stmt := clsS 23 6
theorem sc_Kept_back : FnScope ["self"] ["self"] (defScope st_Kept_back) := ⟨rfl, rfl, rfl, by decide +kernel, rfl, by decide +kernel, by decide +kernel⟩
/-! Kept_back: slots self -/
def g_Kept_back (C : Addr) (i : KA) : DenS (kepR C i) :=
    (dThen (dIfS (dTest (dOp fEq (dKLen (Emb.self (kepR C i)) 0) (dC (.int 1)))) dNever dNx)
    (dKPop (Emb.self (kepR C i)) 0))
def F_Kept_back (C : Addr) : MFn C := runR (kepR C) KA.a 1 1 (g_Kept_back C)
section
variable {P : Program} {w : World} {K : PySem.W.Frag} {mg : Str → Option Value} {base : Heap}
theorem cal_Kept_back {a C : Addr} {fd : FuncData} (bi : BI mg) (kc : KC K C) (Fu : Fun K "back" "Kept.back" st_Kept_back a fd) (hm : Meth K C "back" a)  : CalM C P w K mg base "back" L_Kept_back (F_Kept_back C) :=
  CalM.of (k := L_Kept_back - 1) (fn_R Fu sc_Kept_back (g_Kept_back C) hl_runR (fun i cdv A outer s S H E hr => ⟨_,
    (dss_cons (ds_if (dt_cmp (op_eqD hr.units) s_eq (de_klen (B := ⟨kepR C i, S, H, E⟩) (Emb.self (kepR C i)) 0 kc (by rfl) bi.len_) de_int (nomark _)) (dss_one ds_never) dss_nil)
      (dss_one (ds_kpop (B := ⟨kepR C i, S, H, E⟩) (Emb.self (kepR C i)) 0 kc)))⟩) he_runR) hm (Fu.binds fun _ _ _ _ _ _ us hl => match us, hl with | [_], _ => rfl)
end
abbrev L_Kept_total : Nat := 1
abbrev st_Kept_total : Stmt := clsS 23 8
theorem sc_Kept_total : FnScope ["self"] ["self"] (defScope st_Kept_total) := ⟨rfl, rfl, rfl, by decide +kernel, rfl, by decide +kernel, by decide +kernel⟩
/-! Kept_total: slots self -/
def g_Kept_total (C : Addr) (i : KA) : DenS (kepR C i) :=
    (dRet (dCB fSumA (dCons (dOp fIx (dKLast (Emb.self (kepR C i)) 0) (dC (.int 1))) dNil)))
def F_Kept_total (C : Addr) : MFn C := runR (kepR C) KA.a 1 1 (g_Kept_total C)
section
variable {P : Program} {w : World} {K : PySem.W.Frag} {mg : Str → Option Value} {base : Heap}
theorem cal_Kept_total {a C : Addr} {fd : FuncData} (bi : BI mg) (kc : KC K C) (Fu : Fun K "total" "Kept.total" st_Kept_total a fd) (hm : Meth K C "total" a)  : CalM C P w K mg base "total" L_Kept_total (F_Kept_total C) :=
  CalM.of (k := L_Kept_total - 1) (fn_R Fu sc_Kept_total (g_Kept_total C) hl_runR (fun i cdv A outer s S H E hr => ⟨_,
    (dss_one (ds_ret (de_cb (cr_sumA rfl) s_sumA (by rfl) bi.sum_ (by decide +kernel) (da_cons (be_ix (de_klast (B := ⟨kepR C i, S, H, E⟩) (Emb.self (kepR C i)) 0 kc) de_int) da_nil))))⟩) he_runR) hm (Fu.binds fun _ _ _ _ _ _ us hl => match us, hl with | [_], _ => rfl)
end
abbrev L_Kept_taken : Nat := 2
abbrev st_Kept_taken : Stmt := clsS 23 7
theorem sc_Kept_taken : FnScope ["self"] ["self"] (defScope st_Kept_taken) := ⟨rfl, rfl, rfl, by decide +kernel, rfl, by decide +kernel, by decide +kernel⟩
/-! Kept_taken: slots self -/
def g_Kept_taken (C : Addr) (i : KA) : DenS (kepR C i) :=
    (dRet (dMethE (Emb.self (kepR C i)) 0 (F_Kept_sat C) dNil))
def F_Kept_taken (C : Addr) : MFn C := runR (kepR C) KA.a 1 1 (g_Kept_taken C)
section
variable {P : Program} {w : World} {K : PySem.W.Frag} {mg : Str → Option Value} {base : Heap}
theorem cal_Kept_taken {a C : Addr} {fd : FuncData} (bi : BI mg) (kc : KC K C) (Fu : Fun K "taken" "Kept.taken" st_Kept_taken a fd) (hm : Meth K C "taken" a) (c_Kept_sat : CalM C P w K mg base "sat" L_Kept_sat (F_Kept_sat C)) : CalM C P w K mg base "taken" L_Kept_taken (F_Kept_taken C) :=
  CalM.of (k := L_Kept_taken - 1) (fn_R Fu sc_Kept_taken (g_Kept_taken C) hl_runR (fun i cdv A outer s S H E hr => ⟨_,
    (dss_one (ds_ret (de_meth0 (B := ⟨kepR C i, S, H, E⟩) (Emb.self (kepR C i)) 0 kc c_Kept_sat (hr.mono (by decide)))))⟩) he_runR) hm (Fu.binds fun _ _ _ _ _ _ us hl => match us, hl with | [_], _ => rfl)
end
abbrev L_Kept_would : Nat := 4
abbrev st_Kept_would : Stmt := clsS 23 10
theorem sc_Kept_would : FnScope ["self", "seat"] ["self", "seat"] (defScope st_Kept_would) := ⟨rfl, rfl, rfl, by decide +kernel, rfl, by decide +kernel, by decide +kernel⟩
/-! Kept_would: slots self seat -/
def g_Kept_would (C : Addr) (i : KA) : DenS (kepR C i) :=
    (dThen (dExpr (dMethE (Emb.self (kepR C i)) 0 (F_Kept_need_seat C) (dCons (dBor 1) dNil)))
    (dThen (dIfS (dTest (dOp fInA (dBor 1) (dMethE (Emb.self (kepR C i)) 0 (F_Kept_sat C) dNil))) dNever dNx)
    (dRet (dCB fLen (dCons (dCall F_passed (dCons (dKRow (Emb.self (kepR C i)) 0) (dCons (dMethE (Emb.self (kepR C i)) 0 (F_Kept_sat C) dNil) (dCons (dBor 1) dNil)))) dNil)))))
def F_Kept_would (C : Addr) : MFn C := runR (kepR C) KA.a 2 2 (g_Kept_would C)
section
variable {P : Program} {w : World} {K : PySem.W.Frag} {mg : Str → Option Value} {base : Heap}
theorem cal_Kept_would {a C : Addr} {fd : FuncData} (bi : BI mg) (kc : KC K C) (Fu : Fun K "would" "Kept.would" st_Kept_would a fd) (hm : Meth K C "would" a) (c_Kept_need_seat : CalM C P w K mg base "need_seat" L_Kept_need_seat (F_Kept_need_seat C)) (c_Kept_sat : CalM C P w K mg base "sat" L_Kept_sat (F_Kept_sat C)) (c_passed : Cal P w K mg base "passed" L_passed F_passed) : CalM C P w K mg base "would" L_Kept_would (F_Kept_would C) :=
  CalM.of (k := L_Kept_would - 1) (fn_R Fu sc_Kept_would (g_Kept_would C) hl_runR (fun i cdv A outer s S H E hr => ⟨_,
    (dss_cons (ds_expr (de_methE (B := ⟨kepR C i, S, H, E⟩) (Emb.self (kepR C i)) 0 kc c_Kept_need_seat (hr.mono (by decide)) (da_cons (de_bor 1) da_nil)))
      (dss_cons (ds_if (dt_cmp (op_inA (u65 hr)) s_inA (de_bor 1) (de_meth0 (B := ⟨kepR C i, S, H, E⟩) (Emb.self (kepR C i)) 0 kc c_Kept_sat (hr.mono (by decide))) (by rfl)) (dss_one ds_never) dss_nil)
      (dss_one (ds_ret (de_cb call_len_seq s_len (by rfl) bi.len_ PySem.boot_len (da_cons (de_cal c_passed (hr.mono (by decide)) (by rfl) (da_cons (de_krow (B := ⟨kepR C i, S, H, E⟩) (Emb.self (kepR C i)) 0 kc) (da_cons (de_meth0 (B := ⟨kepR C i, S, H, E⟩) (Emb.self (kepR C i)) 0 kc c_Kept_sat (hr.mono (by decide))) (da_cons (de_bor 1) da_nil)))) da_nil))))))⟩) he_runR) hm (Fu.binds fun _ _ _ _ _ _ us hl => match us, hl with | [_, _], _ => rfl)
end
abbrev L_Kept_leave : Nat := 4
abbrev st_Kept_leave : Stmt := clsS 23 5
theorem sc_Kept_leave : FnScope ["self", "seat", "one"] ["self", "seat"] (defScope st_Kept_leave) := ⟨rfl, rfl, rfl, by decide +kernel, rfl, by decide +kernel, by decide +kernel⟩
/-! Kept_leave: slots self seat one -/
def g_Kept_leave (C : Addr) (i : KA) : DenS (kepR C i) :=
    (dThen (dExpr (dMethE (Emb.self (kepR C i)) 0 (F_Kept_need_seat C) (dCons (dBor 1) dNil)))
    (dThen (dIfS (dTest (dOp fNotInA (dBor 1) (dMethE (Emb.self (kepR C i)) 0 (F_Kept_sat C) dNil))) dNever dNx)
    (dRet (dMethE (Emb.self (kepR C i)) 0 (F_Kept_goes C) (dCons (dBor 1) (dCons (dCB fTuple (dCons (dLc (dSeq (dSh (dMethE (Emb.self (kepR C i)) 0 (F_Kept_sat C) dNil))) (setN 2) (dTest (dOp fNe (dBor 2) (dBor 1))) (dVar 2) [2]) dNil)) dNil))))))
def F_Kept_leave (C : Addr) : MFn C := runR (kepR C) KA.a 3 2 (g_Kept_leave C)
section
variable {P : Program} {w : World} {K : PySem.W.Frag} {mg : Str → Option Value} {base : Heap}
theorem cal_Kept_leave {a C : Addr} {fd : FuncData} (bi : BI mg) (kc : KC K C) (Fu : Fun K "leave" "Kept.leave" st_Kept_leave a fd) (hm : Meth K C "leave" a) (c_Kept_need_seat : CalM C P w K mg base "need_seat" L_Kept_need_seat (F_Kept_need_seat C)) (c_Kept_sat : CalM C P w K mg base "sat" L_Kept_sat (F_Kept_sat C)) (c_Kept_goes : CalM C P w K mg base "goes" L_Kept_goes (F_Kept_goes C)) : CalM C P w K mg base "leave" L_Kept_leave (F_Kept_leave C) :=
  CalM.of (k := L_Kept_leave - 1) (fn_R Fu sc_Kept_leave (g_Kept_leave C) hl_runR (fun i cdv A outer s S H E hr => ⟨_,
    (dss_cons (ds_expr (de_methE (B := ⟨kepR C i, S, H, E⟩) (Emb.self (kepR C i)) 0 kc c_Kept_need_seat (hr.mono (by decide)) (da_cons (de_bor 1) da_nil)))
      (dss_cons (ds_if (dt_cmp (op_notInA (u65 hr)) s_notInA (de_bor 1) (de_meth0 (B := ⟨kepR C i, S, H, E⟩) (Emb.self (kepR C i)) 0 kc c_Kept_sat (hr.mono (by decide))) (by rfl)) (dss_one ds_never) dss_nil)
      (dss_one (ds_ret (de_methE (B := ⟨kepR C i, S, H, E⟩) (Emb.self (kepR C i)) 0 kc c_Kept_goes (hr.mono (by decide)) (da_cons (de_bor 1) (da_cons (de_cty call_tupleF s_tuple (by rfl) bi.tuple_ (by decide +kernel) (da_cons (de_lc (own := [("one", 2)]) rfl sc_Kept_leave.nd (bi_seq (de_sh (de_meth0 (B := ⟨kepR C i, S, H, E⟩) (Emb.self (kepR C i)) 0 kc c_Kept_sat (hr.mono (by decide))))) (blkOk_by (N := ["self", "seat", "one"]) (sc := defScope st_Kept_leave) (by decide +kernel)) (fun _ _ _ _ _ => (dg_name 2 sc_Kept_leave.nd rfl (by first | exact .inl rfl | exact .inr rfl))) (fun _ _ _ _ _ => (dts_one (dt_cmp (op_neD hr.units) s_ne (de_bor 2) (de_bor 1) (nomark _)))) (fun _ _ _ _ _ => (de_var 2)) (by decide)) da_nil)) da_nil)))))))⟩) he_runR) hm (Fu.binds fun _ _ _ _ _ _ us hl => match us, hl with | [_, _], _ => rfl)
end
abbrev L_law : Nat := 6
abbrev st_law : Stmt := topS 33
theorem sc_law : FnScope ["script", "bag", "house", "order", "kept", "told", "place", "seat", "stood", "spare", "some", "leavings", "due", "one", "two"] ["script"] (defScope st_law) := ⟨rfl, rfl, rfl, by decide +kernel, rfl, by decide +kernel, by decide +kernel⟩
end K14
set_option Elab.async false
set_option linter.all false
set_option maxRecDepth 100000
set_option maxHeartbeats 1000000
namespace K14
open PySem PySem.Spec L2 Kn Kd
open PyProof.Rows hiding St
/-! ### __init__ -/
abbrev st_init : Stmt := clsS 23 0
theorem sc_init : FnScope ["self", "row"] ["self", "row"] (defScope st_init) := ⟨rfl, rfl, rfl, by decide +kernel, rfl, by decide +kernel, by decide +kernel⟩
/-- a row that is well -/
def okRow : PyData → Option Int
  | .tuple [.int n, .str s] => if 1 ≤ n ∧ n ≤ 60 ∧ (s = "left" ∨ s = "right") then some n else none
  | _ => none
theorem okRow_house {n : Int} {left : Bool} (h1 : 1 ≤ n) (h2 : n ≤ 60) : okRow (houseD n left) = some n := by
  unfold okRow
  exact if_pos ⟨h1, h2, by cases left <;> simp⟩
theorem okRow_is {hd : PyData} {n : Int} (h : okRow hd = some n) : ∃ left, hd = houseD n left ∧ 1 ≤ n ∧ n ≤ 60 := by
  unfold okRow at h
  split at h
  · rename_i m s
    by_cases z : 1 ≤ m ∧ m ≤ 60 ∧ (s = "left" ∨ s = "right")
    · rw [if_pos z] at h
      cases h
      rcases z.2.2 with e | e
      · exact ⟨true, by rw [e]; rfl, z.1, z.2.1⟩
      · exact ⟨false, by rw [e]; rfl, z.1, z.2.1⟩
    · rw [if_neg z] at h
      cases h
  · cases h
def gi1 (a dx C : Addr) : DenS (iniR C a dx) := dExpr (dCall F_need_row (dCons (dBor 1) dNil))
def gi2 (a dx C : Addr) : DenS (iniR C a dx) := dFRow 0 (dVar 1)
def gi3 (a dx C : Addr) : Den (iniR C a dx) := dLst (dCons (dTup (dCons (dTup dNil) (dCons (dSh (dOp fRepT (dTup (dCons (dC (.int 0)) dNil)) (dOp fIx (dBor 1) (dC (.int 0))))) dNil))) dNil)
section
variable {P : Program} {w : World} {K : PySem.W.Frag} {mg : Str → Option Value} {base : Heap}
theorem cal_init {a C : Addr} {fd : FuncData} (kc : KC K C) (Fu : Fun K "__init__" "Kept.__init__" st_init a fd) (c_need_row : Cal P w K mg base "need_row" L_need_row F_need_row) : FnOk P w K mg base (L2N.CX P w) 4 a fd ["self", "row"] (spInit C okRow) :=
  fn_init (k := 3) kc Fu sc_init rfl (fun a dx => gi1 a dx C) (fun a dx => gi2 a dx C) (fun a dx => gi3 a dx C)
    (fun a dx cdv A outer s S H E hr => ⟨_, ds_expr (de_cal c_need_row (hr.mono (by decide)) (by rfl) (da_cons (de_bor 1) da_nil))⟩)
    (fun a dx cdv A outer s S H E hr => ⟨_, ds_frow 0 kc (de_var 1)⟩)
    (fun a dx cdv A outer s S H E hr => ⟨_, de_lst (da_cons (de_tup (da_cons (de_tup da_nil) (da_cons (de_sh (de_mulT (de_tup (da_cons de_int da_nil)) (be_ix (de_bor 1) de_int))) da_nil))) da_nil)⟩)
    (fun cdv A outer s H E => pe_var rfl (.inl rfl) (by decide) (by decide))
    (fun cdv A outer s H E => rfl)
    (fun a dx hd n hok => by
      obtain ⟨left, rfl, h1, h2⟩ := okRow_is hok
      have e1 := e_need_row n left h1 h2
      have hn : n ≤ 1000 := by omega
      have z : (List.replicate n.toNat [PyData.int 0]).flatten = nsD (List.replicate n.toNat 0) := by
        show _ = List.map PyData.int _
        rw [List.map_replicate]
        generalize n.toNat = m
        induction m with
        | zero => rfl
        | succ m ih => rw [List.replicate_succ, List.replicate_succ, List.flatten_cons, ih]; rfl
      refine ⟨⟨[.rw (.ref a), .ar (houseD n left)], some (houseD n left)⟩, ⟨[.rw (.ref a), .ar (houseD n left)], some (houseD n left)⟩, ?_, ?_, rfl, ?_, rfl, rfl⟩
      · show gi1 a dx C ⟨[.rw (.ref a), .ar (houseD n left)], none⟩ = _
        simp [gi1, e1]
        rfl
      · show (if V.ref a = V.ref a then _ else _) = _
        rw [if_pos rfl]
        rfl
      · have e2 : fRepT (.sh (.tuple [.int 0])) (.sh (.int n)) = some (.sh (.tuple (nsD (List.replicate n.toNat 0)))) := by
          unfold fRepT
          simp only [ev_tup1, ev_int0]
          rw [if_pos ⟨by simp, h1, hn, by simp⟩, z]
        unfold gi3 past0
        generalize nsD (List.replicate n.toNat 0) = zs at *
        simp [e2])
/-! ### __eq__ -/
abbrev st_eq : Stmt := clsS 23 12
theorem sc_eq : FnScope ["self", "other"] ["self", "other"] (defScope st_eq) := ⟨rfl, rfl, rfl, by decide +kernel, rfl, by decide +kernel, by decide +kernel⟩
def g_eq (C : Addr) (q : KA × KA) : DenS (pairK C q) := dRet (dAndV (dIsK (Emb.snd (kepR C q.1) (kepR C q.2)) 1) (dAndV (dOp fEq (dKRow (Emb.fst (kepR C q.1) (kepR C q.2)) 0) (dKRow (Emb.snd (kepR C q.1) (kepR C q.2)) 1)) (dOp fEq (dKLast (Emb.fst (kepR C q.1) (kepR C q.2)) 0) (dKLast (Emb.snd (kepR C q.1) (kepR C q.2)) 1))))
def F_eq (C : Addr) : EFn C := fun q γ ds => if ds = [] then toRes (g_eq C q (entry 2 (preK q) [] γ)) else none
theorem cal_eq {a C : Addr} {fd : FuncData} (bi : BI mg) (kc : KC K C) (ic : C8.InsC K C) (gmK : mg "Kept" = some (.ref C)) (Fu : Fun K "__eq__" "Kept.__eq__" st_eq a fd) (h1 : PySem.W.findIn K (.ref C) "__eq__" = some (some (.ref a))) (h2 : PySem.W.isFn K (.ref a) = true) : CalEq C P w K mg base 1 (F_eq C) :=
  ⟨a, fd, ["self", "other"], fn_Rp (k := 0) Fu sc_eq (g_eq C) (fun q γ ds r h => by obtain ⟨rfl, _⟩ := ite_some h; rfl)
    (fun q cdv A outer s S H E hr => ⟨_, dss_one (ds_ret (de_and (de_isK (B := ⟨pairK C q, S, H, E⟩) (Emb.snd (kepR C q.1) (kepR C q.2)) 1 ic (by rfl) bi.isinstance_ (by rfl) gmK)
      (de_and (de_cmp (op_eqD hr.units) s_eq (de_krow (B := ⟨pairK C q, S, H, E⟩) (Emb.fst (kepR C q.1) (kepR C q.2)) 0 kc) (de_krow (B := ⟨pairK C q, S, H, E⟩) (Emb.snd (kepR C q.1) (kepR C q.2)) 1 kc) (nomark _))
      (de_one (de_cmp (op_eqD hr.units) s_eq (de_klast (B := ⟨pairK C q, S, H, E⟩) (Emb.fst (kepR C q.1) (kepR C q.2)) 0 kc) (de_klast (B := ⟨pairK C q, S, H, E⟩) (Emb.snd (kepR C q.1) (kepR C q.2)) 1 kc) (nomark _))))))⟩)
    (fun q γ ds r h => by obtain ⟨rfl, h⟩ := ite_some h; exact gd_toRes h), h1, h2, Fu.binds fun _ _ _ _ _ _ us hl => match us, hl with | [_, _], _ => rfl⟩
end
end K14
set_option Elab.async false
set_option linter.all false
set_option maxRecDepth 100000
set_option maxHeartbeats 1000000
namespace K14
open PySem PySem.Spec L2 Kn Kd
open PyProof.Rows hiding St
/-! evaluation, piece by piece -/
section
variable {R : Rsc} {τ τ1 τ2 : Tau R}
theorem cons_ev {g : Den R} {h : DenA R} {v : Val} {vs : List Val} (e : g τ = .ok (v, τ1)) (e2 : h τ1 = .ok (vs, τ2)) : dCons g h τ = .ok (v :: vs, τ2) := by simp [e, e2]
theorem nil_ev : (dNil : DenA R) τ = .ok ([], τ) := rfl
theorem lst_ev {g : DenA R} {vals : List Val} {ds : List PyData} (e : g τ = .ok (vals, τ1)) (a : allSh vals = some ds) (hz : ds.length ≤ 100000) : dLst g τ = .ok (.fr ds, τ1) := by simp [e, a, small' hz]
theorem tup_ev {g : DenA R} {vals : List Val} {ds : List PyData} (e : g τ = .ok (vals, τ1)) (a : allSh vals = some ds) (hz : ds.length ≤ 100000) : dTup g τ = .ok (.sh (.tuple ds), τ1) := by simp [e, a, small' hz]
theorem set_ev {i : Nat} {g : Den R} {v : Val} {s : Sl} (e : g τ = .ok (v, τ1)) (es : v.slot = some s) (hi : i < τ1.sl.length) : dSet i g τ = .ok (.nx (τ1.put i s)) := by simp [e, es, hi]
theorem op_ev {f : Val → Val → Option Val} {g h : Den R} {a b c : Val} (e : g τ = .ok (a, τ1)) (e2 : h τ1 = .ok (b, τ2)) (ef : f a b = some c) : dOp f g h τ = .ok (c, τ2) := by simp [e, e2, ef]
theorem sh_ev {g : Den R} {d : PyData} (e : g τ = .ok (.sh d, τ1)) : dSh g τ = .ok (.sh d, τ1) := by simp [e]
theorem shf_ev {g : Den R} {ds : List PyData} (e : g τ = .ok (.fr ds, τ1)) : dSh g τ = .ok (.sh (.list ds), τ1) := by simp [e]
theorem call_ev {F : PFn} {g : DenA R} {vals : List Val} {ds : List PyData} {v : Val} {u : Unit} (e : g τ = .ok (vals, τ1)) (a : allData vals = some ds) (ef : F ds = some (.ok v u)) (ho : v.out = true) : dCall F g τ = .ok (v, τ1) := by simp [e, a, ef, ho]
theorem cb_ev {f : List Val → Option Val} {g : DenA R} {vals : List Val} {c : Val} (e : g τ = .ok (vals, τ1)) (ef : f vals = some c) : dCB f g τ = .ok (c, τ1) := by simp [e, ef]
theorem test_ev {g : Den R} {b : Bool} (e : g τ = .ok (.sh (.bool b), τ1)) : dTest g τ = .ok (b, τ1) := by simp [e]
theorem ret_ev {g : Den R} {v : Val} (e : g τ = .ok (v, τ1)) : dRet g τ = .ok (.rt v τ1) := by simp [e]
theorem expr_ev {g : Den R} {v : Val} (e : g τ = .ok (v, τ1)) : dExpr g τ = .ok (.nx τ1) := by simp [e]
theorem seq_ev {g : Den R} {ds : List PyData} (e : g τ = .ok (.sh (.list ds), τ1)) : dSeq g τ = .ok (ds, τ1) := by simp [e]
theorem seqT_ev {g : Den R} {ds : List PyData} (e : g τ = .ok (.sh (.tuple ds), τ1)) : dSeq g τ = .ok (ds, τ1) := by simp [e]
end
/-! ### the row kept -/
abbrev Ent := List Int × List Int
def entD (q : Ent) : PyData := .tuple [.tuple (nsD q.1), .tuple (nsD q.2)]
abbrev KG := PyData × List PyData
abbrev gK (n : Int) (left : Bool) (l : List Ent) : KG := (houseD n left, l.map entD)
theorem past0_ent (n : Int) : past0 n = entD ([], List.replicate n.toNat 0) := rfl
section
variable {R : Rsc} {C : Addr} {i : KA} {τ τ1 : Tau R} (em : Emb (kepR C i) R) {k : Nat}
theorem atO_ev {f : Tau R → Out (Exn R) (Val × Tau R)} (hs : τ.sl[k]? = some (.rw (.ref i.a))) : atO k i f τ = f τ := by
  unfold atO
  rw [hs]
  exact if_pos rfl
theorem krow_ev {n : Int} {left : Bool} {l : List Ent} (hs : τ.sl[k]? = some (.rw (.ref i.a))) (hg : em.get τ.γ = gK n left l) : dKRow em k τ = .ok (.sh (houseD n left), τ) := by
  unfold dKRow
  rw [atO_ev hs, hg]
theorem atI_last (l : List PyData) (d : PyData) : atI (l ++ [d]) (-1) = some d := by
  have e : ixN (l ++ [d]).length (-1) = some l.length := by
    rw [List.length_append, List.length_singleton]
    unfold ixN
    rw [if_neg (by decide), if_pos (by omega)]
    exact congrArg some (by omega)
  unfold atI
  rw [e]
  show (l ++ [d])[l.length]? = _
  rw [List.getElem?_append_right (Nat.le_refl _), Nat.sub_self]
  rfl
theorem klast_ev {n : Int} {left : Bool} {l : List Ent} {q : Ent} (hs : τ.sl[k]? = some (.rw (.ref i.a))) (hg : em.get τ.γ = gK n left (l ++ [q])) : dKLast em k τ = .ok (.sh (entD q), τ) := by
  have e : atI ((l ++ [q]).map entD) (-1) = some (entD q) := by
    rw [List.map_append]
    exact atI_last _ _
  unfold dKLast
  rw [atO_ev hs, hg]
  simp only [e]
theorem klen_ev {n : Int} {left : Bool} {l : List Ent} (hs : τ.sl[k]? = some (.rw (.ref i.a))) (hg : em.get τ.γ = gK n left l) : dKLen em k τ = .ok (.sh (.int l.length), τ) := by
  unfold dKLen
  rw [atO_ev hs, hg]
  simp only [List.length_map]
theorem meth_ev {F : MFn C} {g : DenA R} {vals : List Val} {ds : List PyData} {v : Val} {γ' : (kepR C i).Γ} (hs : τ.sl[k]? = some (.rw (.ref i.a))) (e : g τ = .ok (vals, τ1)) (a : allData vals = some ds) (ef : F i (em.get τ1.γ) ds = some (.ok v γ')) (ho : v.out = true) : dMethE em k F g τ = .ok (v, ⟨τ1.sl, em.put τ1.γ γ'⟩) := by
  unfold dMethE
  rw [atO_ev hs, e]
  simp only [Out.bind_ok, a]
  unfold resE
  rw [ef]
  simp only [ho, if_true]
end
theorem ix0 (q : Ent) : fIx (.sh (entD q)) (.sh (.int 0)) = some (.sh (.tuple (nsD q.1))) := by
  unfold entD
  generalize nsD q.1 = a, nsD q.2 = b
  rw [ev_fIx]
  simp
theorem ix1 (q : Ent) : fIx (.sh (entD q)) (.sh (.int 1)) = some (.sh (.tuple (nsD q.2))) := by
  unfold entD
  generalize nsD q.1 = a, nsD q.2 = b
  rw [ev_fIx]
  simp
/-! ### counts -/
def bumpC (cs : List Int) (s : Int) : List Int := cs.set (s - 1).toNat (cs.getD (s - 1).toNat 0 + 1)
def addC (cs r : List Int) : List Int := r.foldl bumpC cs
theorem bumpC_len (cs : List Int) (s : Int) : (bumpC cs s).length = cs.length := by simp [bumpC]
theorem addC_len (cs : List Int) : ∀ r : List Int, (addC cs r).length = cs.length := by
  intro r
  induction r generalizing cs with
  | nil => rfl
  | cons s r ih =>
    show (addC (bumpC cs s) r).length = _
    rw [ih, bumpC_len]
theorem set_ns (cs : List Int) (j : Nat) (x : Int) : (nsD cs).set j (.int x) = nsD (cs.set j x) := List.map_set.symm
@[simp] theorem ev_fList (a : Val) : fList [a] = a.seq.map fun ds => .fr ds := rfl
section
variable (C : Addr) (i : KA) (n : Int) (left : Bool) (l : List Ent) (tk st : List Int)
abbrev sS (C : Addr) (i : KA) (γ : KG) : Tau (kepR C i) := ⟨[.rw (.ref i.a)], γ⟩
theorem e_sat : F_Kept_sat C i (gK n left (l ++ [(tk, st)])) [] = some (.ok (.sh (.tuple (nsD tk))) (gK n left (l ++ [(tk, st)]))) := by
  refine runR_eq rfl ?_
  show toRes (g_Kept_sat C i (sS C i (gK n left (l ++ [(tk, st)])))) = _
  unfold g_Kept_sat
  rw [ret_ev (op_ev (klast_ev (Emb.self (kepR C i)) rfl rfl) rfl (ix0 (tk, st)))]
  rfl
theorem e_stood : F_Kept_stood C i (gK n left (l ++ [(tk, st)])) [] = some (.ok (.fr (nsD st)) (gK n left (l ++ [(tk, st)]))) := by
  refine runR_eq rfl ?_
  show toRes (g_Kept_stood C i (sS C i (gK n left (l ++ [(tk, st)])))) = _
  unfold g_Kept_stood
  rw [ret_ev (cb_ev (cons_ev (op_ev (klast_ev (Emb.self (kepR C i)) rfl rfl) rfl (ix1 (tk, st))) nil_ev) rfl)]
  rfl
theorem e_total : F_Kept_total C i (gK n left (l ++ [(tk, st)])) [] = some (.ok (.sh (.int st.sum)) (gK n left (l ++ [(tk, st)]))) := by
  refine runR_eq rfl ?_
  show toRes (g_Kept_total C i (sS C i (gK n left (l ++ [(tk, st)])))) = _
  unfold g_Kept_total
  rw [ret_ev (cb_ev (c := .sh (.int st.sum)) (cons_ev (op_ev (klast_ev (Emb.self (kepR C i)) rfl rfl) rfl (ix1 (tk, st))) nil_ev) (by rw [ev_fSumA]; simp))]
  rfl
theorem e_taken : F_Kept_taken C i (gK n left (l ++ [(tk, st)])) [] = some (.ok (.sh (.tuple (nsD tk))) (gK n left (l ++ [(tk, st)]))) := by
  refine runR_eq rfl ?_
  show toRes (g_Kept_taken C i (sS C i (gK n left (l ++ [(tk, st)])))) = _
  unfold g_Kept_taken
  rw [ret_ev (meth_ev (Emb.self (kepR C i)) rfl nil_ev rfl (e_sat C i n left l tk st) rfl)]
  rfl
theorem e_len : F_Kept___len__ C i (gK n left (l ++ [(tk, st)])) [] = some (.ok (.sh (.int tk.length)) (gK n left (l ++ [(tk, st)]))) := by
  refine runR_eq rfl ?_
  show toRes (g_Kept___len__ C i (sS C i (gK n left (l ++ [(tk, st)])))) = _
  unfold g_Kept___len__
  rw [ret_ev (cb_ev (c := .sh (.int tk.length)) (cons_ev (meth_ev (Emb.self (kepR C i)) rfl nil_ev rfl (e_sat C i n left l tk st) rfl) nil_ev) (by simp))]
  rfl
theorem e_kneed (s : Int) (h1 : 1 ≤ s) (h2 : s ≤ n) : F_Kept_need_seat C i (gK n left l) [.int s] = some (.ok (.sh .none) (gK n left l)) := by
  refine runR_eq rfl ?_
  show toRes (g_Kept_need_seat C i ⟨[.rw (.ref i.a), .ar (.int s)], gK n left l⟩) = _
  have e : dCall F_is_seat (dCons (dKRow (Emb.self (kepR C i)) 0) (dCons (dBor 1) dNil)) (⟨[.rw (.ref i.a), .ar (.int s)], gK n left l⟩ : Tau (kepR C i)) = .ok (.sh (.bool true), ⟨[.rw (.ref i.a), .ar (.int s)], gK n left l⟩) := by
    have e1 := e_is_seat n left s
    rw [decide_eq_true h1, decide_eq_true h2] at e1
    exact call_ev (cons_ev (krow_ev (Emb.self (kepR C i)) rfl rfl) (cons_ev rfl nil_ev)) rfl e1 rfl
  unfold g_Kept_need_seat
  rw [ev_dIfS]
  have e3 : dNot (dTest (dCall F_is_seat (dCons (dKRow (Emb.self (kepR C i)) 0) (dCons (dBor 1) dNil)))) (⟨[.rw (.ref i.a), .ar (.int s)], gK n left l⟩ : Tau (kepR C i)) = .ok (false, ⟨[.rw (.ref i.a), .ar (.int s)], gK n left l⟩) := by
    unfold dNot
    rw [test_ev e]
    rfl
  rw [e3]
  rfl
/-- who is past them that sit elsewhere -/
def oth (tk : List Int) (s : Int) : List Int := tk.filter fun i => !decide (i = s)
theorem oth_len (s : Int) : (oth tk s).length ≤ tk.length := List.length_filter_le _ _
theorem neI (x s : Int) : fNe (.sh (.int x)) (.sh (.int s)) = some (.sh (.bool (!decide (x = s)))) := by rw [fNe_ok rfl rfl .int .int, eqv_int]
/-- one more for each that stands up -/
theorem bump_walk (γ : KG) (a0 a1 a2 a3 : Sl) (r : List Int) (hr : ∀ s ∈ r, 1 ≤ s ∧ s ≤ n) (hn : n ≤ 1000) (cs : List Int) (hc : cs.length = n.toNat) (s8 : Sl) :
    ∃ s8', forGo (setN 5) (dAugIx 4 (dOp fSubI (dBor 5) (dC (.int 1))) (dC (.int 1))) (nsD r) (⟨[a0, a1, a2, a3, .ow (nsD cs), s8], γ⟩ : Tau (kepR C i)) = .ok (.nx ⟨[a0, a1, a2, a3, .ow (nsD (addC cs r)), s8'], γ⟩) := by
  induction r generalizing cs s8 with
  | nil => exact ⟨s8, rfl⟩
  | cons s r ih =>
    obtain ⟨h1, h2⟩ := hr s List.mem_cons_self
    obtain ⟨s8', e⟩ := ih (fun x m => hr x (List.mem_cons_of_mem _ m)) (bumpC cs s) (by rw [bumpC_len]; exact hc) (.sh (.int s))
    refine ⟨s8', ?_⟩
    have hj : (s - 1).toNat < cs.length := by omega
    have e1 : (nsD cs)[(s - 1).toNat]? = some (.int (cs.getD (s - 1).toNat 0)) := by
      show (List.map _ cs)[_]? = _
      rw [List.getElem?_map, List.getElem?_eq_getElem hj, List.getD_eq_getElem?_getD, List.getElem?_eq_getElem hj]
      rfl
    have e2 : (nsD cs).set (s - 1).toNat (.int (cs.getD (s - 1).toNat 0 + 1)) = nsD (bumpC cs s) := set_ns _ _ _
    have b : dAugIx 4 (dOp fSubI (dBor 5) (dC (.int 1))) (dC (.int 1)) (⟨[a0, a1, a2, a3, .ow (nsD cs), .sh (.int s)], γ⟩ : Tau (kepR C i)) = .ok (.nx ⟨[a0, a1, a2, a3, .ow (nsD (bumpC cs s)), .sh (.int s)], γ⟩) := by
      have q1 : 0 ≤ s - 1 := by omega
      have q2 : s - 1 < 4611686018427387904 := by omega
      rw [← e2]
      generalize cs.getD (s - 1).toNat 0 = x at *
      generalize nsD cs = D at *
      have e0 : (s - 1).toNat = s.toNat - 1 := by omega
      rw [e0] at e1 ⊢
      obtain ⟨hl, e3⟩ := List.getElem?_eq_some_iff.mp e1
      rw [ev_dAugIx]
      simp [h1, q2, hl]
      simp only [e3]
    show forGo _ _ (.int s :: nsD r) _ = _
    unfold forGo
    rw [show setN 5 (.int s) (⟨[a0, a1, a2, a3, .ow (nsD cs), s8], γ⟩ : Tau (kepR C i)) = some ⟨[a0, a1, a2, a3, .ow (nsD cs), .sh (.int s)], γ⟩ from rfl]
    simp only []
    rw [b]
    exact e
/-- what going past does -/
def gone (left : Bool) (tk : List Int) (s : Int) : List Int := pas left (oth tk s) s
theorem e_goes (s : Int) (af : List Int) (hl : l.length < 10000) (ht : tk.length ≤ 10000) (ha : af.length ≤ 10000) (hr : ∀ x ∈ tk, 1 ≤ x ∧ x ≤ n) (hn : n ≤ 60) (hs : st.length = n.toNat) :
    F_Kept_goes C i (gK n left (l ++ [(tk, st)])) [.int s, .tuple (nsD af)] = some (.ok (.sh (.tuple (nsD (gone left tk s)))) (gK n left (l ++ [(tk, st)] ++ [(af, addC st (gone left tk s))]))) := by
  refine runR_eq rfl ?_
  obtain ⟨γ, hγ⟩ : ∃ γ : KG, γ = gK n left (l ++ [(tk, st)]) := ⟨_, rfl⟩
  have eT := e_sat C i n left l tk st
  have eLen : γ.2.length < sizeLine := by
    rw [hγ]
    show ((l ++ [(tk, st)]).map entD).length < _
    rw [List.length_map, List.length_append]
    exact smallL (by simp; omega)
  obtain ⟨r, hrr⟩ : ∃ r, r = gone left tk s := ⟨_, rfl⟩
  have eP := e_passed n left (oth tk s) s (by have := oth_len tk s; omega)
  have hr0 : ∀ x ∈ r, 1 ≤ x ∧ x ≤ n := fun x m => by
    rw [hrr] at m
    exact hr x (List.mem_filter.mp (pas_sub m)).1
  rw [show pas left (oth tk s) s = r from hrr.symm] at eP
  rw [← hrr]
  rw [← hγ] at eT ⊢
  show toRes (g_Kept_goes C i ⟨[.rw (.ref i.a), .ar (.int s), .ar (.tuple (nsD af)), .un, .un, .un], γ⟩) = _
  have lc := lcGo_filtI (R := kepR C i) (set := setN 5) (gt := dTest (dOp fNe (dBor 5) (dBor 1))) (ge := dVar 5) (vs := [5]) (τ := ⟨[.rw (.ref i.a), .ar (.int s), .ar (.tuple (nsD af)), .un, .un, .un], γ⟩) (fun x => !decide (x = s)) tk fun x hx => ⟨_, rfl, test_ev (op_ev rfl rfl (neI x s)), rfl, rfl⟩
  have hz : (nsD tk).length ≤ sizeLine := by rw [List.length_map]; exact small' (by omega)
  have e1 : dSet 3 (dCall F_passed (dCons (dKRow (Emb.self (kepR C i)) 0) (dCons (dCB fTuple (dCons (dLc (dSeq (dSh (dMethE (Emb.self (kepR C i)) 0 (F_Kept_sat C) dNil))) (setN 5) (dTest (dOp fNe (dBor 5) (dBor 1))) (dVar 5) [5]) dNil)) (dCons (dBor 1) dNil)))) (⟨[.rw (.ref i.a), .ar (.int s), .ar (.tuple (nsD af)), .un, .un, .un], γ⟩ : Tau (kepR C i))
      = .ok (.nx ⟨[.rw (.ref i.a), .ar (.int s), .ar (.tuple (nsD af)), .ow (nsD r), .un, .un], γ⟩) :=
    set_ev (v := .fr (nsD r)) (τ1 := ⟨[.rw (.ref i.a), .ar (.int s), .ar (.tuple (nsD af)), .un, .un, .un], γ⟩) (call_ev (cons_ev (krow_ev (Emb.self (kepR C i)) rfl hγ) (cons_ev (cb_ev (cons_ev (lc_eq (seqT_ev (sh_ev (meth_ev (Emb.self (kepR C i)) rfl nil_ev rfl eT rfl))) hz lc) nil_ev) rfl) (cons_ev rfl nil_ev))) rfl eP rfl) rfl (by show 3 < 6; decide)
  have e2 : dSet 4 (dCB fList (dCons (dOp fIx (dKLast (Emb.self (kepR C i)) 0) (dC (.int 1))) dNil)) (⟨[.rw (.ref i.a), .ar (.int s), .ar (.tuple (nsD af)), .ow (nsD r), .un, .un], γ⟩ : Tau (kepR C i))
      = .ok (.nx ⟨[.rw (.ref i.a), .ar (.int s), .ar (.tuple (nsD af)), .ow (nsD r), .ow (nsD st), .un], γ⟩) :=
    set_ev (v := .fr (nsD st)) (τ1 := ⟨[.rw (.ref i.a), .ar (.int s), .ar (.tuple (nsD af)), .ow (nsD r), .un, .un], γ⟩) (cb_ev (cons_ev (op_ev (klast_ev (Emb.self (kepR C i)) rfl hγ) rfl (ix1 (tk, st))) nil_ev) rfl) rfl (by show 4 < 6; decide)
  obtain ⟨s8, eW⟩ := bump_walk C i n γ (.rw (.ref i.a)) (.ar (.int s)) (.ar (.tuple (nsD af))) (.sh (.list (nsD r))) r hr0 (by omega) st hs .un
  have e4 : dKApp (Emb.self (kepR C i)) 0 (dTup (dCons (dVar 2) (dCons (dSh (dCB fTuple (dCons (dBor 4) dNil))) dNil))) (⟨[.rw (.ref i.a), .ar (.int s), .ar (.tuple (nsD af)), .sh (.list (nsD r)), .ow (nsD (addC st r)), s8], γ⟩ : Tau (kepR C i))
      = .ok (.nx ⟨[.rw (.ref i.a), .ar (.int s), .ar (.tuple (nsD af)), .sh (.list (nsD r)), .ow (nsD (addC st r)), s8], (γ.1, γ.2 ++ [entD (af, addC st r)])⟩) := by
    unfold dKApp
    have e : dTup (dCons (dVar 2) (dCons (dSh (dCB fTuple (dCons (dBor 4) dNil))) dNil)) (⟨[.rw (.ref i.a), .ar (.int s), .ar (.tuple (nsD af)), .sh (.list (nsD r)), .ow (nsD (addC st r)), s8], γ⟩ : Tau (kepR C i)) = .ok (.sh (entD (af, addC st r)), ⟨[.rw (.ref i.a), .ar (.int s), .ar (.tuple (nsD af)), .sh (.list (nsD r)), .ow (nsD (addC st r)), s8], γ⟩) :=
      tup_ev (cons_ev rfl (cons_ev (sh_ev (cb_ev (cons_ev rfl nil_ev) rfl)) nil_ev)) rfl (by show 2 ≤ 100000; decide)
    unfold atOS
    show (if V.ref i.a = V.ref i.a then _ else _) = _
    rw [if_pos rfl]
    simp only []
    rw [e]
    show (if γ.2.length < sizeLine then _ else _) = _
    rw [if_pos eLen]
  unfold g_Kept_goes
  rw [then_eq e1, then_eq e2, then_eq ((for_eq (seq_ev rfl)).trans eW), then_eq e4, ret_ev (cb_ev (cons_ev rfl nil_ev) rfl)]
  show some (Res.ok (.sh (.tuple (nsD r))) (γ.1, γ.2 ++ [entD (af, addC st r)])) = _
  rw [hγ]
  show some (Res.ok (.sh (.tuple (nsD r))) (houseD n left, (l ++ [(tk, st)]).map entD ++ [entD (af, addC st r)])) = some (Res.ok (.sh (.tuple (nsD r))) (houseD n left, (l ++ [(tk, st)] ++ [(af, addC st r)]).map entD))
  rw [List.map_append (l₁ := l ++ [(tk, st)])]
  rfl
theorem kneedS {sl : List Sl} {γ : KG} {s : Int} (hs : sl[0]? = some (.rw (.ref i.a))) (hj : (dBor 1 : Den (kepR C i)) ⟨sl, γ⟩ = .ok (.sh (.int s), ⟨sl, γ⟩)) (eN : F_Kept_need_seat C i γ [.int s] = some (.ok (.sh .none) γ)) : dExpr (dMethE (Emb.self (kepR C i)) 0 (F_Kept_need_seat C) (dCons (dBor 1) dNil)) (⟨sl, γ⟩ : Tau (kepR C i)) = .ok (.nx ⟨sl, γ⟩) :=
  expr_ev (meth_ev (τ := ⟨sl, γ⟩) (τ1 := ⟨sl, γ⟩) (γ' := γ) (Emb.self (kepR C i)) hs (cons_ev hj nil_ev) rfl eN rfl)
theorem e_come (s : Int) (h1 : 1 ≤ s) (h2 : s ≤ n) (hx : s ∉ tk) (hl : l.length < 10000) (ht : tk.length ≤ 9999) (hr : ∀ x ∈ tk, 1 ≤ x ∧ x ≤ n) (hn : n ≤ 60) (hs : st.length = n.toNat) :
    F_Kept_come C i (gK n left (l ++ [(tk, st)])) [.int s] = some (.ok (.sh (.tuple (nsD (gone left tk s)))) (gK n left (l ++ [(tk, st)] ++ [(isort (tk ++ [s]), addC st (gone left tk s))]))) := by
  refine runR_eq rfl ?_
  have eG := e_goes C i n left l tk st s (isort (tk ++ [s])) hl (by omega) (by rw [isort_length, List.length_append, List.length_singleton]; omega) hr hn hs
  have eT := e_sat C i n left l tk st
  have eN := e_kneed C i n left (l ++ [(tk, st)]) s h1 h2
  obtain ⟨γ, hγ⟩ : ∃ γ : KG, γ = gK n left (l ++ [(tk, st)]) := ⟨_, rfl⟩
  obtain ⟨γ2, hγ2⟩ : ∃ γ2 : KG, γ2 = gK n left (l ++ [(tk, st)] ++ [(isort (tk ++ [s]), addC st (gone left tk s))]) := ⟨_, rfl⟩
  rw [← hγ2] at eG ⊢
  rw [← hγ] at eG eT eN ⊢
  show toRes (g_Kept_come C i ⟨[.rw (.ref i.a), .ar (.int s)], γ⟩) = _
  have e1 : dExpr (dMethE (Emb.self (kepR C i)) 0 (F_Kept_need_seat C) (dCons (dBor 1) dNil)) (⟨[.rw (.ref i.a), .ar (.int s)], γ⟩ : Tau (kepR C i)) = .ok (.nx ⟨[.rw (.ref i.a), .ar (.int s)], γ⟩) := kneedS C i rfl rfl eN
  have eS : dMethE (Emb.self (kepR C i)) 0 (F_Kept_sat C) dNil (⟨[.rw (.ref i.a), .ar (.int s)], γ⟩ : Tau (kepR C i)) = .ok (.sh (.tuple (nsD tk)), ⟨[.rw (.ref i.a), .ar (.int s)], γ⟩) := meth_ev (Emb.self (kepR C i)) rfl nil_ev rfl eT rfl
  have eI : fInA (.sh (.int s)) (.sh (.tuple (nsD tk))) = some (.sh (.bool false)) := by rw [fInA_ok (ns := tk) rfl, decide_eq_false hx]
  have eA : fAdd (.sh (.tuple (nsD tk))) (.sh (.tuple [.int s])) = some (.sh (.tuple (nsD (tk ++ [s])))) := by
    have ec : fCatT (.sh (.tuple (nsD tk))) (.sh (.tuple [.int s])) = some (.sh (.tuple (nsD tk ++ [.int s]))) := if_pos (small' (by rw [List.length_map]; simp; omega))
    show Option.or none (Option.or (fCatT _ _) _) = _
    rw [ec, ns_one, ns_append]
    rfl
  have eB : fSortedA [.sh (.tuple (nsD (tk ++ [s])))] = some (.fr (nsD (isort (tk ++ [s])))) := by
    generalize tk ++ [s] = us
    simp
  unfold g_Kept_come
  rw [then_eq e1, then_eq (if_no (test_ev (op_ev rfl eS eI))), ret_ev (meth_ev (Emb.self (kepR C i)) rfl (cons_ev rfl (cons_ev (cb_ev (cons_ev (cb_ev (cons_ev (op_ev eS (tup_ev (cons_ev rfl nil_ev) rfl (by show 1 ≤ 100000; decide)) eA) nil_ev) eB) nil_ev) rfl) nil_ev)) rfl eG rfl)]
  rfl
theorem e_kleave (s : Int) (h1 : 1 ≤ s) (h2 : s ≤ n) (hx : s ∈ tk) (hl : l.length < 10000) (ht : tk.length ≤ 9999) (hr : ∀ x ∈ tk, 1 ≤ x ∧ x ≤ n) (hn : n ≤ 60) (hs : st.length = n.toNat) :
    F_Kept_leave C i (gK n left (l ++ [(tk, st)])) [.int s] = some (.ok (.sh (.tuple (nsD (gone left tk s)))) (gK n left (l ++ [(tk, st)] ++ [(oth tk s, addC st (gone left tk s))]))) := by
  refine runR_eq rfl ?_
  have eG := e_goes C i n left l tk st s (oth tk s) hl (by omega) (by have := oth_len tk s; omega) hr hn hs
  have eT := e_sat C i n left l tk st
  have eN := e_kneed C i n left (l ++ [(tk, st)]) s h1 h2
  obtain ⟨γ, hγ⟩ : ∃ γ : KG, γ = gK n left (l ++ [(tk, st)]) := ⟨_, rfl⟩
  obtain ⟨γ2, hγ2⟩ : ∃ γ2 : KG, γ2 = gK n left (l ++ [(tk, st)] ++ [(oth tk s, addC st (gone left tk s))]) := ⟨_, rfl⟩
  rw [← hγ2] at eG ⊢
  rw [← hγ] at eG eT eN ⊢
  show toRes (g_Kept_leave C i ⟨[.rw (.ref i.a), .ar (.int s), .un], γ⟩) = _
  have e1 : dExpr (dMethE (Emb.self (kepR C i)) 0 (F_Kept_need_seat C) (dCons (dBor 1) dNil)) (⟨[.rw (.ref i.a), .ar (.int s), .un], γ⟩ : Tau (kepR C i)) = .ok (.nx ⟨[.rw (.ref i.a), .ar (.int s), .un], γ⟩) := kneedS C i rfl rfl eN
  have eS : dMethE (Emb.self (kepR C i)) 0 (F_Kept_sat C) dNil (⟨[.rw (.ref i.a), .ar (.int s), .un], γ⟩ : Tau (kepR C i)) = .ok (.sh (.tuple (nsD tk)), ⟨[.rw (.ref i.a), .ar (.int s), .un], γ⟩) := meth_ev (Emb.self (kepR C i)) rfl nil_ev rfl eT rfl
  have eI : fNotInA (.sh (.int s)) (.sh (.tuple (nsD tk))) = some (.sh (.bool false)) := by rw [fNotInA_ok (ns := tk) rfl, decide_eq_true hx]; rfl
  have hz : (nsD tk).length ≤ sizeLine := by rw [List.length_map]; exact small' (by omega)
  have lc := lcGo_filtI (R := kepR C i) (set := setN 2) (gt := dTest (dOp fNe (dBor 2) (dBor 1))) (ge := dVar 2) (vs := [2]) (τ := ⟨[.rw (.ref i.a), .ar (.int s), .un], γ⟩) (fun x => !decide (x = s)) tk fun x hx => ⟨_, rfl, test_ev (op_ev rfl rfl (neI x s)), rfl, rfl⟩
  unfold g_Kept_leave
  rw [then_eq e1, then_eq (if_no (test_ev (op_ev rfl eS eI))), ret_ev (meth_ev (Emb.self (kepR C i)) rfl (cons_ev rfl (cons_ev (cb_ev (cons_ev (lc_eq (seqT_ev (sh_ev eS)) hz lc) nil_ev) rfl) nil_ev)) rfl eG rfl)]
  rfl
theorem e_would (s : Int) (h1 : 1 ≤ s) (h2 : s ≤ n) (hx : s ∉ tk) (ht : tk.length ≤ 9999) :
    F_Kept_would C i (gK n left (l ++ [(tk, st)])) [.int s] = some (.ok (.sh (.int (pas left tk s).length)) (gK n left (l ++ [(tk, st)]))) := by
  refine runR_eq rfl ?_
  have eT := e_sat C i n left l tk st
  have eN := e_kneed C i n left (l ++ [(tk, st)]) s h1 h2
  have eP := e_passed n left tk s (by omega)
  obtain ⟨γ, hγ⟩ : ∃ γ : KG, γ = gK n left (l ++ [(tk, st)]) := ⟨_, rfl⟩
  rw [← hγ] at eT eN ⊢
  show toRes (g_Kept_would C i ⟨[.rw (.ref i.a), .ar (.int s)], γ⟩) = _
  have e1 : dExpr (dMethE (Emb.self (kepR C i)) 0 (F_Kept_need_seat C) (dCons (dBor 1) dNil)) (⟨[.rw (.ref i.a), .ar (.int s)], γ⟩ : Tau (kepR C i)) = .ok (.nx ⟨[.rw (.ref i.a), .ar (.int s)], γ⟩) := kneedS C i rfl rfl eN
  have eS : dMethE (Emb.self (kepR C i)) 0 (F_Kept_sat C) dNil (⟨[.rw (.ref i.a), .ar (.int s)], γ⟩ : Tau (kepR C i)) = .ok (.sh (.tuple (nsD tk)), ⟨[.rw (.ref i.a), .ar (.int s)], γ⟩) := meth_ev (Emb.self (kepR C i)) rfl nil_ev rfl eT rfl
  have eI : fInA (.sh (.int s)) (.sh (.tuple (nsD tk))) = some (.sh (.bool false)) := by rw [fInA_ok (ns := tk) rfl, decide_eq_false hx]
  have eL : fLen [.fr (nsD (pas left tk s))] = some (.sh (.int (pas left tk s).length)) := by
    generalize pas left tk s = us
    simp
  unfold g_Kept_would
  rw [then_eq e1, then_eq (if_no (test_ev (op_ev rfl eS eI))), ret_ev (cb_ev (cons_ev (call_ev (cons_ev (krow_ev (Emb.self (kepR C i)) rfl hγ) (cons_ev eS (cons_ev rfl nil_ev))) rfl eP rfl) nil_ev) eL)]
  rfl
theorem e_back (q : Ent) (h0 : l ≠ []) : F_Kept_back C i (gK n left (l ++ [q])) [] = some (.ok (.sh .none) (gK n left l)) := by
  refine runR_eq rfl ?_
  show toRes (g_Kept_back C i (sS C i (gK n left (l ++ [q])))) = _
  have e0 : (dKLen (Emb.self (kepR C i)) 0) (sS C i (gK n left (l ++ [q]))) = .ok (.sh (.int (l ++ [q]).length), sS C i (gK n left (l ++ [q]))) := klen_ev (Emb.self (kepR C i)) rfl rfl
  have hl : 0 < l.length := List.length_pos_iff.mpr h0
  have e1 : fEq (.sh (.int (l ++ [q]).length)) (.sh (.int 1)) = some (.sh (.bool false)) := by
    rw [fEq_int, decide_eq_false]
    rw [List.length_append, List.length_singleton]
    omega
  unfold g_Kept_back
  rw [then_eq (if_no (test_ev (op_ev e0 rfl e1)))]
  unfold dKPop atOS
  show toRes (if V.ref i.a = V.ref i.a then _ else _) = _
  rw [if_pos rfl]
  show toRes (if 0 < ((l ++ [q]).map entD).length then _ else _) = _
  rw [if_pos (by rw [List.length_map, List.length_append]; omega)]
  show some (Res.ok (.sh .none) (houseD n left, ((l ++ [q]).map entD).dropLast)) = _
  rw [List.map_append]
  show some (Res.ok (.sh .none) (houseD n left, (l.map entD ++ [entD q]).dropLast)) = _
  rw [List.dropLast_concat]
end
end K14
set_option Elab.async false
set_option linter.all false
set_option maxRecDepth 100000
set_option maxHeartbeats 1000000
namespace K14
open PySem PySem.Spec L2 Kn Kd
open PyProof.Rows hiding St
/-! ### rows kept the same -/
def eqG (γ : KG × KG) : Option Val :=
  match fEq (.sh γ.1.1) (.sh γ.2.1) with
  | some (.sh (.bool true)) => match atI γ.1.2 (-1) with
    | none => none
    | some a => match atI γ.2.2 (-1) with
      | none => none
      | some b => fEq (.sh a) (.sh b)
  | some (.sh (.bool false)) => some (.sh (.bool false))
  | _ => none
theorem fEq_bool {a b c : Val} (h : fEq a b = some c) : ∃ b, c = .sh (.bool b) := by
  unfold fEq at h
  split at h
  · split at h
    · cases h
      exact ⟨_, rfl⟩
    · cases h
  · cases h
theorem F_eq_G (C : Addr) (q : KA × KA) (γ : (pairK C q).Γ) : F_eq C q γ [] = (eqG γ).map fun v => .ok v γ := by
  show (if ([] : List PyData) = [] then toRes (g_eq C q ⟨[.rw (.ref q.1.a), .rw (.ref q.2.a)], γ⟩) else none) = _
  rw [if_pos rfl]
  obtain ⟨τ, hτ⟩ : ∃ τ : Tau (pairK C q), τ = ⟨[.rw (.ref q.1.a), .rw (.ref q.2.a)], γ⟩ := ⟨_, rfl⟩
  have s0 : τ.sl[0]? = some (.rw (.ref q.1.a)) := by rw [hτ]; rfl
  have s1 : τ.sl[1]? = some (.rw (.ref q.2.a)) := by rw [hτ]; rfl
  have hg : τ.γ = γ := by rw [hτ]
  rw [← hτ]
  have h0 : dIsK (Emb.snd (kepR C q.1) (kepR C q.2)) 1 τ = .ok (.sh (.bool true), τ) := atO_ev s1
  have h1 : dKRow (Emb.fst (kepR C q.1) (kepR C q.2)) 0 τ = .ok (.sh τ.γ.1.1, τ) := atO_ev s0
  have h2 : dKRow (Emb.snd (kepR C q.1) (kepR C q.2)) 1 τ = .ok (.sh τ.γ.2.1, τ) := atO_ev s1
  have h3 : dKLast (Emb.fst (kepR C q.1) (kepR C q.2)) 0 τ = (match atI τ.γ.1.2 (-1) with
  | some d => .ok (.sh d, τ)
  | none => .bad) := atO_ev s0
  have h4 : dKLast (Emb.snd (kepR C q.1) (kepR C q.2)) 1 τ = (match atI τ.γ.2.2 (-1) with
  | some d => .ok (.sh d, τ)
  | none => .bad) := atO_ev s1
  unfold g_eq eqG
  rw [← hg]
  have h5 : dOp fEq (dKRow (Emb.fst (kepR C q.1) (kepR C q.2)) 0) (dKRow (Emb.snd (kepR C q.1) (kepR C q.2)) 1) τ = (match fEq (.sh τ.γ.1.1) (.sh τ.γ.2.1) with
  | some c => .ok (c, τ)
  | none => .bad) := by
    rw [ev_dOp, h1]
    simp only [Out.bind_ok, h2]
    all_goals (cases fEq (.sh τ.γ.1.1) (.sh τ.γ.2.1) <;> rfl)
  have h6 : dOp fEq (dKLast (Emb.fst (kepR C q.1) (kepR C q.2)) 0) (dKLast (Emb.snd (kepR C q.1) (kepR C q.2)) 1) τ = (match atI τ.γ.1.2 (-1) with
    | none => .bad
    | some a => match atI τ.γ.2.2 (-1) with
      | none => .bad
      | some b => match fEq (.sh a) (.sh b) with
        | some c => .ok (c, τ)
        | none => .bad) := by
    simp only [ev_dOp, h3]
    cases atI τ.γ.1.2 (-1) with
    | none => rfl
    | some a =>
      simp only [Out.bind_ok, h4]
      cases atI τ.γ.2.2 (-1) with
      | none => rfl
      | some b => rfl
  rw [ev_dRet]
  unfold dAndV
  simp only [h0, Out.bind_ok, h5]
  cases ec : fEq (.sh τ.γ.1.1) (.sh τ.γ.2.1) with
  | none => rfl
  | some c =>
    obtain ⟨b, rfl⟩ := fEq_bool ec
    simp only [Out.bind_ok]
    cases b with
    | true =>
      simp only [h6]
      cases atI τ.γ.1.2 (-1) with
      | none => rfl
      | some a =>
        simp only []
        cases atI τ.γ.2.2 (-1) with
        | none => rfl
        | some b =>
          simp only []
          cases fEq (.sh a) (.sh b) with
          | none => rfl
          | some c => rfl
    | false => rfl
theorem eq_uni (C : Addr) (i q : KA) (γ : KG × KG) : F_eq C (i, q) γ [] = F_eq C (i, ⟨0, 0, 0⟩) γ [] := by
  rw [F_eq_G C (i, q) γ]
  exact (F_eq_G C (i, ⟨0, 0, 0⟩) γ).symm
theorem sh_house (n : Int) (left : Bool) : SH 2 (houseD n left) := SH.tup fun d m => by
  rcases List.mem_cons.mp m with rfl | m
  · exact .int
  · rw [List.mem_singleton] at m
    subst m
    cases left
    · exact .str
    · exact .str
theorem eqv_house (n n2 : Int) (left left2 : Bool) : PyData.eqv (houseD n left) (houseD n2 left2) = decide (n = n2 ∧ left = left2) := by
  have e1 : PyData.eqv (.str (if left then "left" else "right")) (.str (if left2 then "left" else "right")) = decide (left = left2) := by cases left <;> cases left2 <;> decide +kernel
  show PyData.eqv (.tuple [.int n, _]) (.tuple [.int n2, _]) = _
  rw [PyData.eqv]
  simp only [PyData.eqvAll]
  rw [eqv_int, e1]
  by_cases h1 : n = n2 <;> by_cases h2 : left = left2 <;> simp [h1, h2]
theorem sh_ent (q : Ent) : SH 3 (entD q) := SH.tup fun d m => by
  rcases List.mem_cons.mp m with rfl | m
  · exact SH.tup SH.nsD
  · rw [List.mem_singleton] at m
    subst m
    exact SH.tup SH.nsD
theorem eqv_ent (a b : Ent) : PyData.eqv (entD a) (entD b) = decide (a = b) := by
  show PyData.eqv (.tuple [.tuple (nsD a.1), .tuple (nsD a.2)]) (.tuple [.tuple (nsD b.1), .tuple (nsD b.2)]) = _
  rw [PyData.eqv]
  simp only [PyData.eqvAll]
  rw [eqv_tupI, eqv_tupI]
  by_cases h1 : a.1 = b.1 <;> by_cases h2 : a.2 = b.2 <;> simp [h1, h2, Prod.ext_iff]
theorem e_eq (C : Addr) (q : KA × KA) (n n2 : Int) (left left2 : Bool) (l l2 : List Ent) (a b : Ent) : F_eq C q (gK n left (l ++ [a]), gK n2 left2 (l2 ++ [b])) [] = some (.ok (.sh (.bool (decide (n = n2 ∧ left = left2 ∧ a = b)))) (gK n left (l ++ [a]), gK n2 left2 (l2 ++ [b]))) := by
  rw [F_eq_G]
  have e1 : fEq (.sh (houseD n left)) (.sh (houseD n2 left2)) = some (.sh (.bool (decide (n = n2 ∧ left = left2)))) := by
    rw [fEq_ok rfl rfl (sh_house n left) (sh_house n2 left2), eqv_house]
  have e2 : fEq (.sh (entD a)) (.sh (entD b)) = some (.sh (.bool (decide (a = b)))) := by
    rw [fEq_ok rfl rfl (sh_ent a) (sh_ent b), eqv_ent]
  have e3 : ∀ (l : List Ent) (a : Ent), atI ((l ++ [a]).map entD) (-1) = some (entD a) := fun l a => by
    rw [List.map_append]
    exact atI_last _ _
  unfold eqG
  simp only [e1, e3, e2]
  by_cases h1 : n = n2 ∧ left = left2
  · rw [decide_eq_true h1]
    simp only [Option.map_some]
    rw [show decide (n = n2 ∧ left = left2 ∧ a = b) = decide (a = b) from decide_eq_decide.mpr ⟨fun z => z.2.2, fun z => ⟨h1.1, h1.2, z⟩⟩]
  · rw [decide_eq_false h1]
    simp only [Option.map_some]
    rw [decide_eq_false fun z => h1 ⟨z.1, z.2.1⟩]
end K14
set_option Elab.async false
set_option linter.all false
set_option maxRecDepth 100000
set_option maxHeartbeats 4000000
namespace K14
open PySem PySem.Spec L2 Kn Kd
open PyProof.Rows hiding St
/-! the law, in pieces; slots script bag house order kept told place seat stood spare some leavings due one two -/
def gl1 (ab : Addr) : DenS (bagR ab) :=
    (dSet 2 (dCallR bagR id ab F__law_house (dCons (dVar 1) (dCons (dC (.int 60)) dNil))))
def gl2 (ab : Addr) : DenS (bagR ab) :=
    (dSet 3 (dCallR bagR id ab F__law_coming (dCons (dVar 1) (dCons (dBor 2) (dCons (dC (.int 40)) dNil)))))
def glK {R : Rsc} : DenA R := (dCons (dBor 2) dNil)
def glT {R : Rsc} : Den R := (dCall F_numbers (dCons (dBor 2) (dCons (dBor 3) dNil)))
def glr0 (C ab : Addr) (q : KA) : DenS (prodR (bagR ab) (kepR C q)) :=
    (dFor (dEnum (dCons (dVar 3) dNil)) (setTup (setCons (setN 6) (setCons (setN 7) setNil))) (dIfS (dOr (dTest (dOp fNe (dMethE (Emb.snd (bagR ab) (kepR C q)) 4 (F_Kept_would C) (dCons (dBor 7) dNil)) (dOp fIx (dBor 5) (dBor 6)))) (dTest (dOp fNe (dCB fLen (dCons (dMethE (Emb.snd (bagR ab) (kepR C q)) 4 (F_Kept_come C) (dCons (dBor 7) dNil)) dNil)) (dOp fIx (dBor 5) (dBor 6))))) (dRet (dC (.bool false))) dNx))
def glr1 (C ab : Addr) (q : KA) : DenS (prodR (bagR ab) (kepR C q)) :=
    (dSet 8 (dMethE (Emb.snd (bagR ab) (kepR C q)) 4 (F_Kept_stood C) dNil))
def glr2 (C ab : Addr) (q : KA) : DenS (prodR (bagR ab) (kepR C q)) :=
    (dIfS (dTest (dOp fNe (dLc (dSeq (dSh (dCB fSortedA (dCons (dBor 3) dNil)))) (setN 7) dYes (dTup (dCons (dVar 7) (dCons (dSh (dOp fIx (dBor 8) (dOp fSubI (dBor 7) (dC (.int 1))))) dNil))) [7]) (dCall F_times (dCons (dBor 2) (dCons (dBor 3) dNil))))) (dRet (dC (.bool false))) dNx)
def glr3 (C ab : Addr) (q : KA) : DenS (prodR (bagR ab) (kepR C q)) :=
    (dIfS (dOr (dTest (dOp fNe (dMethE (Emb.snd (bagR ab) (kepR C q)) 4 (F_Kept_total C) dNil) (dCB fSum (dCons (dBor 5) dNil)))) (dTest (dOp fNe (dMethE (Emb.snd (bagR ab) (kepR C q)) 4 (F_Kept_taken C) dNil) (dCB fTuple (dCons (dCB fSortedA (dCons (dBor 3) dNil)) dNil))))) (dRet (dC (.bool false))) dNx)
def glr4 (C ab : Addr) (q : KA) : DenS (prodR (bagR ab) (kepR C q)) :=
    (dSet 9 (dLc (dRng2 (dCons (dC (.int 1)) (dCons (dOp fAdd (dOp fIx (dBor 2) (dC (.int 0))) (dC (.int 1))) dNil))) (setN 7) (dTest (dOp fNotInA (dBor 7) (dBor 3))) (dVar 7) [7]))
def glr5 (C ab : Addr) (q : KA) : DenS (prodR (bagR ab) (kepR C q)) :=
    (dIfS (dTest (dOp fNe (dBor 9) (dLst dNil))) (dThen (dSet 7 (dOp fIx (dBor 9) (dCallE id (Emb.fst (bagR ab) (kepR C q)) F__law_take (dCons (dVar 1) (dCons (dCB fLen (dCons (dBor 9) dNil)) dNil)))))
    (dThen (dSet 10 (dMethE (Emb.snd (bagR ab) (kepR C q)) 4 (F_Kept_come C) (dCons (dBor 7) dNil)))
    (dThen (dIfS (dOr (dTest (dOp fNe (dMethE (Emb.snd (bagR ab) (kepR C q)) 4 (F_Kept_leave C) (dCons (dBor 7) dNil)) (dBor 10))) (dTest (dOp fNe (dMethE (Emb.snd (bagR ab) (kepR C q)) 4 (F_Kept_total C) dNil) (dOp fAdd (dCB fSum (dCons (dBor 5) dNil)) (dOp fMul (dC (.int 2)) (dCB fLen (dCons (dBor 10) dNil))))))) (dRet (dC (.bool false))) dNx)
    (dThen (dExpr (dMethE (Emb.snd (bagR ab) (kepR C q)) 4 (F_Kept_back C) dNil))
    (dExpr (dMethE (Emb.snd (bagR ab) (kepR C q)) 4 (F_Kept_back C) dNil)))))) dNx)
def glr6 (C ab : Addr) (q : KA) : DenS (prodR (bagR ab) (kepR C q)) :=
    (dSet 11 (dCB fTuple (dCons (dLc (dSeq (dSh (dCallE id (Emb.fst (bagR ab) (kepR C q)) F__law_mixed (dCons (dVar 1) (dCons (dCB fLen (dCons (dBor 3) dNil)) dNil))))) (setN 6) dYes (dSh (dOp fIx (dBor 3) (dOp fSubI (dBor 6) (dC (.int 1))))) [6]) dNil)))
def glr7 (C ab : Addr) (q : KA) : DenS (prodR (bagR ab) (kepR C q)) :=
    (dSet 12 (dCall F_leave_numbers (dCons (dBor 2) (dCons (dBor 3) (dCons (dBor 11) dNil)))))
def glr8 (C ab : Addr) (q : KA) : DenS (prodR (bagR ab) (kepR C q)) :=
    (dIfS (dOr (dTest (dOp fNe (dLc (dSeq (dVar 11)) (setN 7) dYes (dSh (dCB fLen (dCons (dMethE (Emb.snd (bagR ab) (kepR C q)) 4 (F_Kept_leave C) (dCons (dBor 7) dNil)) dNil))) [7]) (dBor 12))) (dTest (dOp fNe (dLenO (Emb.snd (bagR ab) (kepR C q)) 4 (F_Kept___len__ C)) (dC (.int 0))))) (dRet (dC (.bool false))) dNx)
def glr9 (C ab : Addr) (q : KA) : DenS (prodR (bagR ab) (kepR C q)) :=
    (dIfS (dTest (dOp fNe (dMethE (Emb.snd (bagR ab) (kepR C q)) 4 (F_Kept_total C) dNil) (dOp fAdd (dCB fSum (dCons (dBor 5) dNil)) (dCB fSum (dCons (dBor 12) dNil))))) (dRet (dC (.bool false))) dNx)
def glr10 (C ab : Addr) (q : KA) : DenS (prodR (bagR ab) (kepR C q)) :=
    (dIfS (dTest (dOp fNe (dEqNew okRow (Emb.snd (bagR ab) (kepR C q)) 4 (F_eq C) (dCons (dBor 2) dNil)) (dOp fEq (dOp fAdd (dCB fSum (dCons (dBor 5) dNil)) (dCB fSum (dCons (dBor 12) dNil))) (dC (.int 0))))) (dRet (dC (.bool false))) dNx)
def glR (C ab : Addr) (q : KA) : DenS (prodR (bagR ab) (kepR C q)) := (dThen (glr0 C ab q) (dThen (glr1 C ab q) (dThen (glr2 C ab q) (dThen (glr3 C ab q) (dThen (glr4 C ab q) (dThen (glr5 C ab q) (dThen (glr6 C ab q) (dThen (glr7 C ab q) (dThen (glr8 C ab q) (dThen (glr9 C ab q) (glr10 C ab q)))))))))))
def geK {R : Rsc} : DenA R := (dCons (dTup (dCons (dC (.int 4)) (dCons (dC (.str "left")) dNil))) dNil)
def ger0 (K : PySem.W.Frag) (C : Addr) (p : Addr × List Int) (q q2 : KA) : DenS (prodR (prodR (scrR K p) (kepR C q)) (kepR C q2)) :=
    (dFor (dSeq (dTup (dCons (dC (.int 1)) (dCons (dC (.int 2)) dNil)))) (setN 7) (dExpr (dMethE (Emb.comp (Emb.snd (scrR K p) (kepR C q)) (Emb.fst (prodR (scrR K p) (kepR C q)) (kepR C q2))) 13 (F_Kept_come C) (dCons (dBor 7) dNil))))
def ger1 (K : PySem.W.Frag) (C : Addr) (p : Addr × List Int) (q q2 : KA) : DenS (prodR (prodR (scrR K p) (kepR C q)) (kepR C q2)) :=
    (dFor (dSeq (dTup (dCons (dC (.int 2)) (dCons (dC (.int 1)) dNil)))) (setN 7) (dExpr (dMethE (Emb.snd (prodR (scrR K p) (kepR C q)) (kepR C q2)) 14 (F_Kept_come C) (dCons (dBor 7) dNil))))
def ger2 (K : PySem.W.Frag) (C : Addr) (p : Addr × List Int) (q q2 : KA) : DenS (prodR (prodR (scrR K p) (kepR C q)) (kepR C q2)) :=
    (dRet (dAndV (dEqE (Emb.lift (Emb.snd (scrR K p) (kepR C q)) (kepR C q2)) 13 14 (F_eq C)) (dAndV (dNotV (dEqNew okRow (Emb.comp (Emb.snd (scrR K p) (kepR C q)) (Emb.fst (prodR (scrR K p) (kepR C q)) (kepR C q2))) 13 (F_eq C) (dCons (dTup (dCons (dC (.int 4)) (dCons (dC (.str "left")) dNil))) dNil))) (dNotV (dEqNN false (dCons (dTup (dCons (dC (.int 4)) (dCons (dC (.str "left")) dNil))) dNil))))))
def geR (K : PySem.W.Frag) (C : Addr) (p : Addr × List Int) (q q2 : KA) : DenS (prodR (prodR (scrR K p) (kepR C q)) (kepR C q2)) := (dThen (ger0 K C p q q2) (dThen (ger1 K C p q q2) (ger2 K C p q q2)))
end K14
set_option Elab.async false
set_option linter.all false
set_option maxRecDepth 100000
set_option maxHeartbeats 4000000
namespace K14
open PySem PySem.Spec L2 Kn Kd
open PyProof.Rows hiding St
abbrev pass0 : Stmt := .Pass ⟨0, 0, 0, 0⟩
def loopB : List Stmt := match (defBody st_law).getD 0 pass0 with
  | .For _ _ body _ _ => body
  | _ => []
abbrev NLaw : List Str := ["script", "bag", "house", "order", "kept", "told", "place", "seat", "stood", "spare", "some", "leavings", "due", "one", "two"]
/-- the slots ahead of the object -/
abbrev sH (ab : Addr) (hd od : PyData) (γ : List Int × Int) : Tau (bagR ab) := ⟨[.un, .rw (.ref ab), .sh hd, .sh od, .un, .un, .un, .un, .un, .un, .un, .un, .un, .un, .un], γ⟩
structure GoodB (C ab : Addr) (d : List Int) : Prop where
  ex : ∃ (hd od : PyData) (n k1 k2 : Int) (ds : List PyData), okRow hd = some n ∧ (∃ τ1, gl1 ab (bagSlots 15 1 ab d) = .ok (.nx τ1) ∧ gl2 ab τ1 = .ok (.nx (sH ab hd od (d, k2)))) ∧
    F_numbers [hd, od] = some (.ok (.fr ds) ()) ∧
    ∀ q : KA, ∃ τ4, glR C ab q ⟨[.un, .rw (.ref ab), .sh hd, .sh od, .rw (.ref q.a), .ow ds, .un, .un, .un, .un, .un, .un, .un, .un, .un], ((d, k2), (hd, [past0 n]))⟩ = .ok (.nx τ4) ∧ τ4.sl.length = 15
section
variable {P : Program} {w : World} {K : PySem.W.Frag} {mg : Str → Option Value} {base : Heap}
section
variable {a C : Addr} {p : Addr × List Int} {cdv : Value} {A : Around} {outer : List Env} {s : Shared} {H0 : Hp} {E : XK}
abbrev XL (P : Program) (w : World) (K : PySem.W.Frag) (mg : Str → Option Value) (base : Heap) (a : Addr) (cdv : Value) (A : Around) (outer : List Env) (s : Shared) (H0 : Hp) (E : XK) : Cx := cxOf (L2N.CX P w) P w K mg base NLaw "law" (defScope st_law) a cdv A outer s H0 E
theorem dL_ev {R : Rsc} (τ : Tau R) : (dCons (dTup (dCons (dC (.int 4)) (dCons (dC (.str "left")) dNil))) dNil : DenA R) τ = .ok ([.sh (houseD 4 true)], τ) := rfl
theorem dR_ev {R : Rsc} (τ : Tau R) : (dCons (dTup (dCons (dC (.int 4)) (dCons (dC (.str "right")) dNil))) dNil : DenA R) τ = .ok ([.sh (houseD 4 false)], τ) := rfl
theorem eNa {R : Rsc} (τ : Tau R) (vals : List Val) (τ' : Tau R) (e : (dCons (dTup (dCons (dC (.int 4)) (dCons (dC (.str "left")) dNil))) dNil : DenA R) τ = .ok (vals, τ')) : vals = [.sh (houseD 4 true)] := by
  rw [dL_ev] at e
  cases e
  rfl
theorem okNa : okRow (houseD 4 true) = some 4 := okRow_house (by decide) (by decide)
theorem okNb : okRow (houseD 4 false) = some 4 := okRow_house (by decide) (by decide)
theorem efN {C : Addr} (q : KA × KA) : ∃ γ', F_eq C q ((houseD 4 true, [past0 4]), (houseD 4 false, [past0 4])) [] = some (.ok (.sh (.bool false)) γ') := by
  have e := e_eq C q 4 4 true false [] [] ([], List.replicate 4 0) ([], List.replicate 4 0)
  exact ⟨_, e⟩
theorem eNb {R : KA → Rsc} (q : KA) (τ : Tau (R q)) : (dCons (dTup (dCons (dC (.int 4)) (dCons (dC (.str "right")) dNil))) dNil : DenA (R q)) τ = .ok ([.sh (houseD 4 false)], τ) := dR_ev τ
theorem law_d1 (bi : BI mg) (c__law_house : CalR bagR id P w K mg base "_law_house" L__law_house F__law_house) (c__law_coming : CalR bagR id P w K mg base "_law_coming" L__law_coming F__law_coming) (c_numbers : Cal P w K mg base "numbers" L_numbers F_numbers) (c_Kept_would : CalM C P w K mg base "would" L_Kept_would (F_Kept_would C)) (c_Kept_come : CalM C P w K mg base "come" L_Kept_come (F_Kept_come C)) (c_Kept_stood : CalM C P w K mg base "stood" L_Kept_stood (F_Kept_stood C)) (c_times : Cal P w K mg base "times" L_times F_times) (c_Kept_total : CalM C P w K mg base "total" L_Kept_total (F_Kept_total C)) (c_Kept_taken : CalM C P w K mg base "taken" L_Kept_taken (F_Kept_taken C)) (c__law_take : CalR bagR id P w K mg base "_law_take" L__law_take F__law_take) (c_Kept_leave : CalM C P w K mg base "leave" L_Kept_leave (F_Kept_leave C)) (c_Kept_back : CalM C P w K mg base "back" L_Kept_back (F_Kept_back C)) (c__law_mixed : CalR bagR id P w K mg base "_law_mixed" L__law_mixed F__law_mixed) (c_leave_numbers : Cal P w K mg base "leave_numbers" L_leave_numbers F_leave_numbers) (c_Kept___len__ : CalM C P w K mg base "__len__" L_Kept___len__ (F_Kept___len__ C)) (hr : Room (L_law - 1) (A.deeper (envOfC "law" (defScope st_law) s.heap.objs.size a cdv))) : ∃ t, ∀ ab S H, DS ⟨bagR ab, S, H, E⟩ (XL P w K mg base a cdv A outer s H0 E) (loopB.getD 0 pass0) t (gl1 ab) := ⟨_, fun ab S H => (ds_set (i := 2) sc_law.nd rfl (by first | exact .inl rfl | exact .inr rfl) (de_calR (Rs := bagR) (ad := id) (i := ab) c__law_house (hr.mono (by decide)) (by rfl) (da_cons (de_var 1) (da_cons de_int da_nil))))⟩
theorem law_d2 (bi : BI mg) (c__law_house : CalR bagR id P w K mg base "_law_house" L__law_house F__law_house) (c__law_coming : CalR bagR id P w K mg base "_law_coming" L__law_coming F__law_coming) (c_numbers : Cal P w K mg base "numbers" L_numbers F_numbers) (c_Kept_would : CalM C P w K mg base "would" L_Kept_would (F_Kept_would C)) (c_Kept_come : CalM C P w K mg base "come" L_Kept_come (F_Kept_come C)) (c_Kept_stood : CalM C P w K mg base "stood" L_Kept_stood (F_Kept_stood C)) (c_times : Cal P w K mg base "times" L_times F_times) (c_Kept_total : CalM C P w K mg base "total" L_Kept_total (F_Kept_total C)) (c_Kept_taken : CalM C P w K mg base "taken" L_Kept_taken (F_Kept_taken C)) (c__law_take : CalR bagR id P w K mg base "_law_take" L__law_take F__law_take) (c_Kept_leave : CalM C P w K mg base "leave" L_Kept_leave (F_Kept_leave C)) (c_Kept_back : CalM C P w K mg base "back" L_Kept_back (F_Kept_back C)) (c__law_mixed : CalR bagR id P w K mg base "_law_mixed" L__law_mixed F__law_mixed) (c_leave_numbers : Cal P w K mg base "leave_numbers" L_leave_numbers F_leave_numbers) (c_Kept___len__ : CalM C P w K mg base "__len__" L_Kept___len__ (F_Kept___len__ C)) (hr : Room (L_law - 1) (A.deeper (envOfC "law" (defScope st_law) s.heap.objs.size a cdv))) : ∃ t, ∀ ab S H, DS ⟨bagR ab, S, H, E⟩ (XL P w K mg base a cdv A outer s H0 E) (loopB.getD 1 pass0) t (gl2 ab) := ⟨_, fun ab S H => (ds_set (i := 3) sc_law.nd rfl (by first | exact .inl rfl | exact .inr rfl) (de_calR (Rs := bagR) (ad := id) (i := ab) c__law_coming (hr.mono (by decide)) (by rfl) (da_cons (de_var 1) (da_cons (de_bor 2) (da_cons de_int da_nil)))))⟩
theorem law_d3 (bi : BI mg) (cnew : CalNew C okRow P w K mg base "Kept" 4) (c__law_house : CalR bagR id P w K mg base "_law_house" L__law_house F__law_house) (c__law_coming : CalR bagR id P w K mg base "_law_coming" L__law_coming F__law_coming) (c_numbers : Cal P w K mg base "numbers" L_numbers F_numbers) (c_Kept_would : CalM C P w K mg base "would" L_Kept_would (F_Kept_would C)) (c_Kept_come : CalM C P w K mg base "come" L_Kept_come (F_Kept_come C)) (c_Kept_stood : CalM C P w K mg base "stood" L_Kept_stood (F_Kept_stood C)) (c_times : Cal P w K mg base "times" L_times F_times) (c_Kept_total : CalM C P w K mg base "total" L_Kept_total (F_Kept_total C)) (c_Kept_taken : CalM C P w K mg base "taken" L_Kept_taken (F_Kept_taken C)) (c__law_take : CalR bagR id P w K mg base "_law_take" L__law_take F__law_take) (c_Kept_leave : CalM C P w K mg base "leave" L_Kept_leave (F_Kept_leave C)) (c_Kept_back : CalM C P w K mg base "back" L_Kept_back (F_Kept_back C)) (c__law_mixed : CalR bagR id P w K mg base "_law_mixed" L__law_mixed F__law_mixed) (c_leave_numbers : Cal P w K mg base "leave_numbers" L_leave_numbers F_leave_numbers) (c_Kept___len__ : CalM C P w K mg base "__len__" L_Kept___len__ (F_Kept___len__ C)) (hr : Room (L_law - 1) (A.deeper (envOfC "law" (defScope st_law) s.heap.objs.size a cdv))) : ∃ t1 tb, PS (XL P w K mg base a cdv A outer s H0 E) (loopB.getD 2 pass0) (tMk1U K C okRow 4 5 t1 tb) ∧ (∀ B : Bs, SndA B t1 glK) ∧ (∀ B : Bs, SndE B tb glT) :=
  ⟨_, _, mk1U cnew (hr.mono (by decide)) (by rfl) (fun B => (da_cons (de_bor 2) da_nil)) (fun B => (de_cal c_numbers (hr.mono (by decide)) (by rfl) (da_cons (de_bor 2) (da_cons (de_bor 3) da_nil)))) rfl sc_law.nd rfl rfl (by first | exact .inl rfl | exact .inr rfl) (by first | exact .inl rfl | exact .inr rfl) (by first | exact .inl rfl | exact .inr rfl) (by first | exact .inl rfl | exact .inr rfl)⟩
theorem law_dR (bi : BI mg) (kc : KC K C) (ceq : CalEq C P w K mg base 1 (F_eq C)) (cnew : CalNew C okRow P w K mg base "Kept" 4) (c__law_house : CalR bagR id P w K mg base "_law_house" L__law_house F__law_house) (c__law_coming : CalR bagR id P w K mg base "_law_coming" L__law_coming F__law_coming) (c_numbers : Cal P w K mg base "numbers" L_numbers F_numbers) (c_Kept_would : CalM C P w K mg base "would" L_Kept_would (F_Kept_would C)) (c_Kept_come : CalM C P w K mg base "come" L_Kept_come (F_Kept_come C)) (c_Kept_stood : CalM C P w K mg base "stood" L_Kept_stood (F_Kept_stood C)) (c_times : Cal P w K mg base "times" L_times F_times) (c_Kept_total : CalM C P w K mg base "total" L_Kept_total (F_Kept_total C)) (c_Kept_taken : CalM C P w K mg base "taken" L_Kept_taken (F_Kept_taken C)) (c__law_take : CalR bagR id P w K mg base "_law_take" L__law_take F__law_take) (c_Kept_leave : CalM C P w K mg base "leave" L_Kept_leave (F_Kept_leave C)) (c_Kept_back : CalM C P w K mg base "back" L_Kept_back (F_Kept_back C)) (c__law_mixed : CalR bagR id P w K mg base "_law_mixed" L__law_mixed F__law_mixed) (c_leave_numbers : Cal P w K mg base "leave_numbers" L_leave_numbers F_leave_numbers) (c_Kept___len__ : CalM C P w K mg base "__len__" L_Kept___len__ (F_Kept___len__ C)) (hr : Room (L_law - 1) (A.deeper (envOfC "law" (defScope st_law) s.heap.objs.size a cdv))) : ∃ t, ∀ ab q S H, DSs (addB ⟨bagR ab, S, H, E⟩ C q) (XL P w K mg base a cdv A outer s H0 E) (loopB.drop 3) t (glR C ab q) := ⟨_, fun ab q S H => (dss_cons (ds_for (passes_of rfl) rfl (bi_enum (by rfl) bi.enumerate_ (da_cons (de_var 3) da_nil)) (bg_tup rfl (dgs_cons (dg_name 6 sc_law.nd rfl (by first | exact .inl rfl | exact .inr rfl)) (dgs_cons (dg_name 7 sc_law.nd rfl (by first | exact .inl rfl | exact .inr rfl)) dgs_nil)) (len_cons (len_cons len_nil))) (dss_one (ds_if (DW.dt (dw_or (dt_cmp (op_neD hr.units) s_ne (de_methE (B := (addB ⟨bagR ab, S, H, E⟩ C q)) (Emb.snd (bagR ab) (kepR C q)) 4 kc c_Kept_would (hr.mono (by decide)) (da_cons (de_bor 7) da_nil)) (be_ix (de_bor 5) (de_bor 6)) (nomark _)) (dw_or1 (dt_cmp (op_neD hr.units) s_ne (de_cb call_len_seq s_len (by rfl) bi.len_ PySem.boot_len (da_cons (de_methE (B := (addB ⟨bagR ab, S, H, E⟩ C q)) (Emb.snd (bagR ab) (kepR C q)) 4 kc c_Kept_come (hr.mono (by decide)) (da_cons (de_bor 7) da_nil)) da_nil)) (be_ix (de_bor 5) (de_bor 6)) (nomark _))))) (dss_one (ds_ret de_bl)) dss_nil)))
      (dss_cons (ds_set (i := 8) sc_law.nd rfl (by first | exact .inl rfl | exact .inr rfl) (de_meth0 (B := (addB ⟨bagR ab, S, H, E⟩ C q)) (Emb.snd (bagR ab) (kepR C q)) 4 kc c_Kept_stood (hr.mono (by decide))))
      (dss_cons (ds_if (dt_cmp (op_neD hr.units) s_ne (de_lc (own := [("seat", 7)]) rfl sc_law.nd (bi_seq (de_sh (de_cb cr_sortedA s_sortedA (by rfl) bi.sorted_ (by decide +kernel) (da_cons (de_bor 3) da_nil)))) (blkOk_by (N := ["script", "bag", "house", "order", "kept", "told", "place", "seat", "stood", "spare", "some", "leavings", "due", "one", "two"]) (sc := defScope st_law) (by decide +kernel)) (fun _ _ _ _ _ => (dg_name 7 sc_law.nd rfl (by first | exact .inl rfl | exact .inr rfl))) (fun _ _ _ _ _ => dts_nil) (fun _ _ _ _ _ => (de_tup (da_cons (de_var 7) (da_cons (de_sh (be_ix (de_bor 8) (de_sub (de_bor 7) de_int))) da_nil)))) (by decide)) (de_cal c_times (hr.mono (by decide)) (by rfl) (da_cons (de_bor 2) (da_cons (de_bor 3) da_nil))) (nomark _)) (dss_one (ds_ret de_bl)) dss_nil)
      (dss_cons (ds_if (DW.dt (dw_or (dt_cmp (op_neD hr.units) s_ne (de_meth0 (B := (addB ⟨bagR ab, S, H, E⟩ C q)) (Emb.snd (bagR ab) (kepR C q)) 4 kc c_Kept_total (hr.mono (by decide))) (de_cb (cr_sum rfl) s_sum (by rfl) bi.sum_ (by decide +kernel) (da_cons (de_bor 5) da_nil)) (nomark _)) (dw_or1 (dt_cmp (op_neD hr.units) s_ne (de_meth0 (B := (addB ⟨bagR ab, S, H, E⟩ C q)) (Emb.snd (bagR ab) (kepR C q)) 4 kc c_Kept_taken (hr.mono (by decide))) (de_cty call_tupleF s_tuple (by rfl) bi.tuple_ (by decide +kernel) (da_cons (de_cb cr_sortedA s_sortedA (by rfl) bi.sorted_ (by decide +kernel) (da_cons (de_bor 3) da_nil)) da_nil)) (nomark _))))) (dss_one (ds_ret de_bl)) dss_nil)
      (dss_cons (ds_setLc (i := 9) (own := [("seat", 7)]) rfl sc_law.nd rfl rfl (sw_true rfl rfl rfl (by decide +kernel)) (di_range2 (by rfl) bi.range_ (da_cons de_int (da_cons (be_add (be_ix (de_bor 2) de_int) de_int) da_nil))) (blkOk_by (N := ["script", "bag", "house", "order", "kept", "told", "place", "seat", "stood", "spare", "some", "leavings", "due", "one", "two"]) (sc := defScope st_law) (by decide +kernel)) (fun _ _ _ _ _ => (dg_name 7 sc_law.nd rfl (by first | exact .inl rfl | exact .inr rfl))) (fun _ _ _ _ _ => (dts_one (dt_cmp (op_notInA (u65 hr)) s_notInA (de_bor 7) (de_bor 3) (by rfl)))) (fun _ _ _ _ _ => (de_var 7)) (by decide))
      (dss_cons (ds_if (dt_cmp (op_neD hr.units) s_ne (de_bor 9) (de_lst da_nil) (nomark _)) (dss_cons (ds_set (i := 7) sc_law.nd rfl (by first | exact .inl rfl | exact .inr rfl) (be_ix (de_bor 9) (de_calE (B := (addB ⟨bagR ab, S, H, E⟩ C q)) (Rs := bagR) (ad := id) (i := ab) (Emb.fst (bagR ab) (kepR C q)) c__law_take (hr.mono (by decide)) (by rfl) (da_cons (de_var 1) (da_cons (de_cb call_len_seq s_len (by rfl) bi.len_ PySem.boot_len (da_cons (de_bor 9) da_nil)) da_nil)))))
      (dss_cons (ds_set (i := 10) sc_law.nd rfl (by first | exact .inl rfl | exact .inr rfl) (de_methE (B := (addB ⟨bagR ab, S, H, E⟩ C q)) (Emb.snd (bagR ab) (kepR C q)) 4 kc c_Kept_come (hr.mono (by decide)) (da_cons (de_bor 7) da_nil)))
      (dss_cons (ds_if (DW.dt (dw_or (dt_cmp (op_neD hr.units) s_ne (de_methE (B := (addB ⟨bagR ab, S, H, E⟩ C q)) (Emb.snd (bagR ab) (kepR C q)) 4 kc c_Kept_leave (hr.mono (by decide)) (da_cons (de_bor 7) da_nil)) (de_bor 10) (nomark _)) (dw_or1 (dt_cmp (op_neD hr.units) s_ne (de_meth0 (B := (addB ⟨bagR ab, S, H, E⟩ C q)) (Emb.snd (bagR ab) (kepR C q)) 4 kc c_Kept_total (hr.mono (by decide))) (be_add (de_cb (cr_sum rfl) s_sum (by rfl) bi.sum_ (by decide +kernel) (da_cons (de_bor 5) da_nil)) (de_mul de_int (de_cb call_len_seq s_len (by rfl) bi.len_ PySem.boot_len (da_cons (de_bor 10) da_nil)))) (nomark _))))) (dss_one (ds_ret de_bl)) dss_nil)
      (dss_cons (ds_expr (de_meth0 (B := (addB ⟨bagR ab, S, H, E⟩ C q)) (Emb.snd (bagR ab) (kepR C q)) 4 kc c_Kept_back (hr.mono (by decide))))
      (dss_one (ds_expr (de_meth0 (B := (addB ⟨bagR ab, S, H, E⟩ C q)) (Emb.snd (bagR ab) (kepR C q)) 4 kc c_Kept_back (hr.mono (by decide))))))))) dss_nil)
      (dss_cons (ds_set (i := 11) sc_law.nd rfl (by first | exact .inl rfl | exact .inr rfl) (de_cty call_tupleF s_tuple (by rfl) bi.tuple_ (by decide +kernel) (da_cons (de_lc (own := [("place", 6)]) rfl sc_law.nd (bi_seq (de_sh (de_calE (B := (addB ⟨bagR ab, S, H, E⟩ C q)) (Rs := bagR) (ad := id) (i := ab) (Emb.fst (bagR ab) (kepR C q)) c__law_mixed (hr.mono (by decide)) (by rfl) (da_cons (de_var 1) (da_cons (de_cb call_len_seq s_len (by rfl) bi.len_ PySem.boot_len (da_cons (de_bor 3) da_nil)) da_nil))))) (blkOk_by (N := ["script", "bag", "house", "order", "kept", "told", "place", "seat", "stood", "spare", "some", "leavings", "due", "one", "two"]) (sc := defScope st_law) (by decide +kernel)) (fun _ _ _ _ _ => (dg_name 6 sc_law.nd rfl (by first | exact .inl rfl | exact .inr rfl))) (fun _ _ _ _ _ => dts_nil) (fun _ _ _ _ _ => (de_sh (be_ix (de_bor 3) (de_sub (de_bor 6) de_int)))) (by decide)) da_nil)))
      (dss_cons (ds_set (i := 12) sc_law.nd rfl (by first | exact .inl rfl | exact .inr rfl) (de_cal c_leave_numbers (hr.mono (by decide)) (by rfl) (da_cons (de_bor 2) (da_cons (de_bor 3) (da_cons (de_bor 11) da_nil)))))
      (dss_cons (ds_if (DW.dt (dw_or (dt_cmp (op_neD hr.units) s_ne (de_lc (own := [("seat", 7)]) rfl sc_law.nd (bi_seq (de_var 11)) (blkOk_by (N := ["script", "bag", "house", "order", "kept", "told", "place", "seat", "stood", "spare", "some", "leavings", "due", "one", "two"]) (sc := defScope st_law) (by decide +kernel)) (fun _ _ _ _ _ => (dg_name 7 sc_law.nd rfl (by first | exact .inl rfl | exact .inr rfl))) (fun _ _ _ _ _ => dts_nil) (fun _ _ _ _ _ => (de_sh (de_cb call_len_seq s_len (by rfl) bi.len_ PySem.boot_len (da_cons (de_methE (B := (addB ⟨bagR ab, S, H, E⟩ C q)) (Emb.snd (bagR ab) (kepR C q)) 4 kc c_Kept_leave (hr.mono (by decide)) (da_cons (de_bor 7) da_nil)) da_nil)))) (by decide)) (de_bor 12) (nomark _)) (dw_or1 (dt_cmp (op_neD hr.units) s_ne (de_lenO (B := (addB ⟨bagR ab, S, H, E⟩ C q)) (Emb.snd (bagR ab) (kepR C q)) 4 c_Kept___len__ (hr.mono (by decide)) (by rfl) bi.len_) de_int (nomark _))))) (dss_one (ds_ret de_bl)) dss_nil)
      (dss_cons (ds_if (dt_cmp (op_neD hr.units) s_ne (de_meth0 (B := (addB ⟨bagR ab, S, H, E⟩ C q)) (Emb.snd (bagR ab) (kepR C q)) 4 kc c_Kept_total (hr.mono (by decide))) (be_add (de_cb (cr_sum rfl) s_sum (by rfl) bi.sum_ (by decide +kernel) (da_cons (de_bor 5) da_nil)) (de_cb (cr_sum rfl) s_sum (by rfl) bi.sum_ (by decide +kernel) (da_cons (de_bor 12) da_nil))) (nomark _)) (dss_one (ds_ret de_bl)) dss_nil)
      (dss_one (ds_if (dt_cmp (op_neD hr.units) s_ne (de_eqNew (B := (addB ⟨bagR ab, S, H, E⟩ C q)) (Emb.snd (bagR ab) (kepR C q)) 4 ceq cnew (hr.mono (by decide)) (hr.mono (by decide)) (by rfl) (da_cons (de_bor 2) da_nil) (fun q γ => eq_uni C _ q γ)) (de_cmp (op_eqD hr.units) s_eq (be_add (de_cb (cr_sum rfl) s_sum (by rfl) bi.sum_ (by decide +kernel) (da_cons (de_bor 5) da_nil)) (de_cb (cr_sum rfl) s_sum (by rfl) bi.sum_ (by decide +kernel) (da_cons (de_bor 12) da_nil))) de_int (nomark _)) (nomark _)) (dss_one (ds_ret de_bl)) dss_nil))))))))))))⟩
theorem law_e1 (bi : BI mg) (cnew : CalNew C okRow P w K mg base "Kept" 4) (hr : Room (L_law - 1) (A.deeper (envOfC "law" (defScope st_law) s.heap.objs.size a cdv))) : ∃ t1 t2, PS (XL P w K mg base a cdv A outer s H0 E) ((defBody st_law).getD 1 pass0) (tPar 13 14 (tCons (tMake C (spInit C okRow) [] E0 t1) (tCons (tMake C (spInit C okRow) [] E0 t2) tNil))) ∧ (∀ B : Bs, SndA B t1 geK) ∧ (∀ B : Bs, SndA B t2 geK) :=
  ⟨_, _, mk2 cnew (hr.mono (by decide)) (by rfl) (fun B => (da_cons (de_tup (da_cons de_int (da_cons de_str da_nil))) da_nil)) (fun B => (da_cons (de_tup (da_cons de_int (da_cons de_str da_nil))) da_nil)) rfl sc_law.nd rfl rfl (by decide) rfl rfl⟩
theorem law_eR (bi : BI mg) (kc : KC K C) (ceq : CalEq C P w K mg base 1 (F_eq C)) (cnew : CalNew C okRow P w K mg base "Kept" 4) (c_Kept_come : CalM C P w K mg base "come" L_Kept_come (F_Kept_come C)) (hr : Room (L_law - 1) (A.deeper (envOfC "law" (defScope st_law) s.heap.objs.size a cdv))) : ∃ t, ∀ q q2 S H, DSs (addB (addB ⟨scrR K p, S, H, E⟩ C q) C q2) (XL P w K mg base a cdv A outer s H0 E) ((defBody st_law).drop 2) t (geR K C p q q2) := ⟨_, fun q q2 S H => (dss_cons (ds_for (passes_of rfl) rfl (bi_seq (de_tup (da_cons de_int (da_cons de_int da_nil)))) (dg_name 7 sc_law.nd rfl (by first | exact .inl rfl | exact .inr rfl)) (dss_one (ds_expr (de_methE (B := (addB (addB ⟨scrR K p, S, H, E⟩ C q) C q2)) (Emb.comp (Emb.snd (scrR K p) (kepR C q)) (Emb.fst (prodR (scrR K p) (kepR C q)) (kepR C q2))) 13 kc c_Kept_come (hr.mono (by decide)) (da_cons (de_bor 7) da_nil)))))
      (dss_cons (ds_for (passes_of rfl) rfl (bi_seq (de_tup (da_cons de_int (da_cons de_int da_nil)))) (dg_name 7 sc_law.nd rfl (by first | exact .inl rfl | exact .inr rfl)) (dss_one (ds_expr (de_methE (B := (addB (addB ⟨scrR K p, S, H, E⟩ C q) C q2)) (Emb.snd (prodR (scrR K p) (kepR C q)) (kepR C q2)) 14 kc c_Kept_come (hr.mono (by decide)) (da_cons (de_bor 7) da_nil)))))
      (dss_one (ds_ret (de_and (de_eqE (B := (addB (addB ⟨scrR K p, S, H, E⟩ C q) C q2)) (Emb.lift (Emb.snd (scrR K p) (kepR C q)) (kepR C q2)) 13 14 ceq (hr.mono (by decide))) (de_and (de_not (de_eqNew (B := (addB (addB ⟨scrR K p, S, H, E⟩ C q) C q2)) (Emb.comp (Emb.snd (scrR K p) (kepR C q)) (Emb.fst (prodR (scrR K p) (kepR C q)) (kepR C q2))) 13 ceq cnew (hr.mono (by decide)) (hr.mono (by decide)) (by rfl) (da_cons (de_tup (da_cons de_int (da_cons de_str da_nil))) da_nil) (fun q γ => eq_uni C _ q γ))) (de_one (de_not (de_eqNN (B := (addB (addB ⟨scrR K p, S, H, E⟩ C q) C q2)) (b := false) ceq cnew (hr.mono (by decide)) (hr.mono (by decide)) (by rfl) (da_cons (de_tup (da_cons de_int (da_cons de_str da_nil))) da_nil) eNa okNa (fun _ => (da_cons (de_tup (da_cons de_int (da_cons de_str da_nil))) da_nil)) eNb okNb efN)))))))))⟩
end
/-- what the two rows of the end tell -/
def GoodE (K : PySem.W.Frag) (C : Addr) : Prop := ∀ (p : Addr × List Int) (q q2 : KA), ∃ τ4, geR K C p q q2 ⟨[.un, .un, .un, .un, .un, .un, .un, .un, .un, .un, .un, .un, .un, .rw (.ref q.a), .rw (.ref q2.a)], (((), (houseD 4 true, [past0 4])), (houseD 4 true, [past0 4]))⟩ = .ok (.rt (.sh (.bool true)) τ4)
theorem ok_law {a C : Addr} {fd : FuncData} (bi : BI mg) (kc : KC K C) (ceq : CalEq C P w K mg base 1 (F_eq C)) (cnew : CalNew C okRow P w K mg base "Kept" 4) (Fu : Fun K "law" "law" st_law a fd) (c__law_house : CalR bagR id P w K mg base "_law_house" L__law_house F__law_house) (c__law_coming : CalR bagR id P w K mg base "_law_coming" L__law_coming F__law_coming) (c_numbers : Cal P w K mg base "numbers" L_numbers F_numbers) (c_Kept_would : CalM C P w K mg base "would" L_Kept_would (F_Kept_would C)) (c_Kept_come : CalM C P w K mg base "come" L_Kept_come (F_Kept_come C)) (c_Kept_stood : CalM C P w K mg base "stood" L_Kept_stood (F_Kept_stood C)) (c_times : Cal P w K mg base "times" L_times F_times) (c_Kept_total : CalM C P w K mg base "total" L_Kept_total (F_Kept_total C)) (c_Kept_taken : CalM C P w K mg base "taken" L_Kept_taken (F_Kept_taken C)) (c__law_take : CalR bagR id P w K mg base "_law_take" L__law_take F__law_take) (c_Kept_leave : CalM C P w K mg base "leave" L_Kept_leave (F_Kept_leave C)) (c_Kept_back : CalM C P w K mg base "back" L_Kept_back (F_Kept_back C)) (c__law_mixed : CalR bagR id P w K mg base "_law_mixed" L__law_mixed F__law_mixed) (c_leave_numbers : Cal P w K mg base "leave_numbers" L_leave_numbers F_leave_numbers) (c_Kept___len__ : CalM C P w K mg base "__len__" L_Kept___len__ (F_Kept___len__ C)) (c__law_bags : CalBags P w K mg base "_law_bags" L__law_bags)
    (good : ∀ ab d, isDraw d → GoodB C ab d) (gend : GoodE K C) : FnOk P w K mg base (L2N.CX P w) L_law a fd ["script"] (spLaw K) := by
  refine fn_lawV (k := L_law - 1) Fu sc_law (fun p cdv A outer s S H E hl hr => ?_)
  obtain ⟨t1, D1⟩ := law_d1 (s := s) (A := A) (outer := outer) (cdv := cdv) (a := a) (H0 := H) (E := E) bi c__law_house c__law_coming c_numbers c_Kept_would c_Kept_come c_Kept_stood c_times c_Kept_total c_Kept_taken c__law_take c_Kept_leave c_Kept_back c__law_mixed c_leave_numbers c_Kept___len__ hr
  obtain ⟨t2, D2⟩ := law_d2 (s := s) (A := A) (outer := outer) (cdv := cdv) (a := a) (H0 := H) (E := E) bi c__law_house c__law_coming c_numbers c_Kept_would c_Kept_come c_Kept_stood c_times c_Kept_total c_Kept_taken c__law_take c_Kept_leave c_Kept_back c__law_mixed c_leave_numbers c_Kept___len__ hr
  obtain ⟨tK, tT, P3, SK, ST⟩ := law_d3 (s := s) (A := A) (outer := outer) (cdv := cdv) (a := a) (H0 := H) (E := E) bi cnew c__law_house c__law_coming c_numbers c_Kept_would c_Kept_come c_Kept_stood c_times c_Kept_total c_Kept_taken c__law_take c_Kept_leave c_Kept_back c__law_mixed c_leave_numbers c_Kept___len__ hr
  obtain ⟨tR, DR⟩ := law_dR (s := s) (A := A) (outer := outer) (cdv := cdv) (a := a) (H0 := H) (E := E) bi kc ceq cnew c__law_house c__law_coming c_numbers c_Kept_would c_Kept_come c_Kept_stood c_times c_Kept_total c_Kept_taken c__law_take c_Kept_leave c_Kept_back c__law_mixed c_leave_numbers c_Kept___len__ hr
  obtain ⟨tA, tB, P4, SA, SB⟩ := law_e1 (s := s) (A := A) (outer := outer) (cdv := cdv) (a := a) (H0 := H) (E := E) bi cnew hr
  obtain ⟨tE, DE'⟩ := law_eR (p := p) (s := s) (A := A) (outer := outer) (cdv := cdv) (a := a) (H0 := H) (E := E) bi kc ceq cnew c_Kept_come hr
  have PB : PSs (XL P w K mg base a cdv A outer s H E) loopB (tSeq t1 (tSeq t2 (tSeq (tMk1U K C okRow 4 5 tK tT) tR))) := pss_cons (D1 0 H H).pe (pss_cons (D2 0 H H).pe (pss_cons P3 (DR 0 ⟨0, 0, 0⟩ H H).pe))
  have TB : ∀ (ab : Addr) (d : List Int) (S' H' : Hp), isDraw d → Tri ⟨bagR ab, S', H', E⟩ (tSeq t1 (tSeq t2 (tSeq (tMk1U K C okRow 4 5 tK tT) tR))) (bagSlots 15 1 ab d) fun τ' => τ'.sl.length = 15 := fun ab d S' H' hd => by
    obtain ⟨hd', od, n, k1, k2, ds, ok, ⟨τ1, e1, e2⟩, en, er⟩ := (good ab d hd).ex
    refine tri_seq (N1 := fun τ => τ = τ1) (tri_of (D1 ab S' H') e1 rfl) fun τ1' z => ?_
    subst z
    refine tri_seq (N1 := fun τ => τ = sH ab hd' od (d, k2)) (tri_of (D2 ab S' H') e2 rfl) fun τ2 z => ?_
    subst z
    refine tri_open1U (B := ⟨bagR ab, S', H', E⟩) (gr := fun q => glR C ab q) (ga := glK) (gb := fun q => glT) (val := .fr ds) (s2 := .ow ds) (γ' := (d, k2)) (SK _) rfl ok (fun q => ST _) (fun q => ?_) rfl (by show 4 < 15; decide) (by show 5 < 15; decide) (fun q => DR ab q S' H') er
    show glT (R := prodR (bagR ab) (kepR C q)) _ = _
    unfold glT
    exact call_ev (cons_ev rfl (cons_ev rfl nil_ev)) rfl en rfl
  obtain ⟨tl, BL⟩ : ∃ tl, DS ⟨scrR K p, S, H, E⟩ (XL P w K mg base a cdv A outer s H E) ((defBody st_law).getD 0 pass0) tl (dBags p 15) :=
    ⟨_, ds_bagsR (k := L__law_bags) 15 hl (by decide) (by decide) (passes_of rfl) rfl c__law_bags (hr.mono (by decide)) (by rfl) sc_law.nd rfl rfl (by first | exact .inl rfl | exact .inr rfl) (by first | exact .inl rfl | exact .inr rfl) rfl (by first | exact Or.inl rfl | exact Or.inr (Or.inl rfl) | exact Or.inr (Or.inr rfl)) PB TB⟩
  refine ⟨tSeq tl (tSeq (tPar 13 14 (tCons (tMake C (spInit C okRow) [] E0 tA) (tCons (tMake C (spInit C okRow) [] E0 tB) tNil))) tE), pss_cons BL.pe (pss_cons P4 (DE' ⟨0, 0, 0⟩ ⟨0, 0, 0⟩ H H).pe), ?_⟩
  refine triV_seq (N1 := fun τ => τ = ⟨List.replicate 15 .un, ()⟩) (tri_of BL ?_ rfl) fun τ1 z => ?_
  · show (if V.ref p.1 = V.ref p.1 ∧ _ then _ else _) = _
    rw [if_pos ⟨rfl, rfl⟩]
  · subst z
    exact triV_open2 (B := ⟨scrR K p, S, H, E⟩) (gr := fun q q2 => geR K C p q q2) (ga := geK) (ga2 := fun q => geK) (SA _) (dL_ev _) okNa (fun q => SB _) (fun q => dL_ev _) okNa (by show 13 < 15; decide) (by show 14 < 15; decide) (fun q q2 => DE' q q2 S H) (gend p)
end
end K14
set_option Elab.async false
set_option linter.all false
set_option maxRecDepth 100000
set_option maxHeartbeats 1000000
namespace K14
open PySem PySem.Spec L2 Kn Kd
open PyProof.Rows hiding St
/-! ### counts, plainly -/
def cO (n : Int) (left : Bool) (o : List Int) : List Int := (gos left o).foldl addC (List.replicate n.toNat 0)
theorem gos_snoc (left : Bool) (o : List Int) (s : Int) : gos left (o ++ [s]) = gos left o ++ [pas left o s] := by
  apply List.ext_getElem?
  intro i
  by_cases h : i < o.length
  · have e : o[i]? = some o[i] := List.getElem?_eq_getElem h
    have e2 : (o ++ [s])[i]? = some o[i] := by rw [List.getElem?_append_left h, e]
    rw [gos_get e2, List.getElem?_append_left (by rw [gos_len]; exact h), gos_get e, List.take_append_of_le_length (by omega)]
  · by_cases h2 : i = o.length
    · subst h2
      have e2 : (o ++ [s])[o.length]? = some s := by simp
      rw [gos_get e2, List.getElem?_append_right (by rw [gos_len]; exact Nat.le_refl _), gos_len, Nat.sub_self, List.take_left]
      rfl
    · rw [List.getElem?_eq_none (by rw [gos_len, List.length_append, List.length_singleton]; omega), List.getElem?_eq_none (by rw [List.length_append, gos_len, List.length_singleton]; omega)]
theorem cO_snoc (n : Int) (left : Bool) (o : List Int) (s : Int) : cO n left (o ++ [s]) = addC (cO n left o) (pas left o s) := by
  unfold cO
  rw [gos_snoc, List.foldl_append]
  rfl
theorem cO_nil (n : Int) (left : Bool) : cO n left [] = List.replicate n.toNat 0 := rfl
/-- as many places as seats, none below nought -/
structure Cnt (n : Int) (cs : List Int) : Prop where
  len : cs.length = n.toNat
  nn : ∀ x ∈ cs, 0 ≤ x
theorem bumpC_get (cs : List Int) (s : Int) (i : Nat) (h : i < cs.length) : (bumpC cs s).getD i 0 = cs.getD i 0 + (if (s - 1).toNat = i then 1 else 0) := by
  unfold bumpC
  rw [List.getD_eq_getElem?_getD, List.getD_eq_getElem?_getD, List.getElem?_set]
  by_cases z : (s - 1).toNat = i
  · subst z
    rw [if_pos rfl, if_pos h, if_pos rfl, List.getD_eq_getElem?_getD]
    rfl
  · rw [if_neg z, if_neg z, List.getD_eq_getElem?_getD]
    omega
theorem set_sum (y : Int) : ∀ (cs : List Int) (j : Nat), j < cs.length → (cs.set j y).sum = cs.sum - cs.getD j 0 + y
  | [], j, h => by simp at h
  | c :: cs, 0, _ => by
    simp
    omega
  | c :: cs, j + 1, h => by
    have ih := set_sum y cs j (by simpa using h)
    show (c :: cs.set j y).sum = (c :: cs).sum - cs.getD j 0 + y
    rw [List.sum_cons, List.sum_cons, ih]
    omega
theorem bumpC_sum (cs : List Int) (s : Int) (h : (s - 1).toNat < cs.length) : (bumpC cs s).sum = cs.sum + 1 := by
  unfold bumpC
  rw [set_sum _ _ _ h]
  omega
theorem Cnt.bump {n : Int} {cs : List Int} {s : Int} (h : Cnt n cs) (h1 : 1 ≤ s) (h2 : s ≤ n) : Cnt n (bumpC cs s) ∧ (bumpC cs s).sum = cs.sum + 1 := by
  have hj : (s - 1).toNat < cs.length := by have := h.len; omega
  refine ⟨⟨by rw [bumpC_len]; exact h.len, fun x hx => ?_⟩, bumpC_sum cs s hj⟩
  rcases List.mem_or_eq_of_mem_set hx with m | rfl
  · exact h.nn x m
  · have : cs.getD (s - 1).toNat 0 ∈ cs := by
      rw [List.getD_eq_getElem?_getD, List.getElem?_eq_getElem hj]
      exact List.getElem_mem hj
    have := h.nn _ this
    omega
theorem Cnt.add {n : Int} : ∀ {r : List Int} {cs : List Int}, Cnt n cs → (∀ s ∈ r, 1 ≤ s ∧ s ≤ n) → Cnt n (addC cs r) ∧ (addC cs r).sum = cs.sum + r.length
  | [], cs, h, _ => ⟨h, by simp [addC]⟩
  | s :: r, cs, h, hr => by
    obtain ⟨a, b⟩ := hr s List.mem_cons_self
    obtain ⟨c, e⟩ := h.bump a b
    obtain ⟨c2, e2⟩ := Cnt.add (r := r) c fun x m => hr x (List.mem_cons_of_mem _ m)
    refine ⟨c2, ?_⟩
    show (addC (bumpC cs s) r).sum = _
    rw [e2, e, List.length_cons]
    omega
theorem Cnt.zero (n : Int) : Cnt n (List.replicate n.toNat 0) := ⟨List.length_replicate, fun x m => by rw [List.eq_of_mem_replicate m]; exact Int.le_refl _⟩
theorem zero_sum (m : Nat) : (List.replicate m (0 : Int)).sum = 0 := by
  induction m with
  | zero => rfl
  | succ m ih => rw [List.replicate_succ, List.sum_cons, ih]; rfl
theorem addC_get {n : Int} : ∀ {r : List Int} {cs : List Int} {s : Int}, cs.length = n.toNat → r.Nodup → (∀ x ∈ r, 1 ≤ x ∧ x ≤ n) → 1 ≤ s → s ≤ n → (addC cs r).getD (s - 1).toNat 0 = cs.getD (s - 1).toNat 0 + (if s ∈ r then 1 else 0)
  | [], cs, s, _, _, _, _, _ => by simp [addC]
  | k :: r, cs, s, hc, nd, hr, h1, h2 => by
    rw [List.nodup_cons] at nd
    obtain ⟨a, b⟩ := hr k List.mem_cons_self
    show (addC (bumpC cs k) r).getD _ 0 = _
    rw [addC_get (n := n) (by rw [bumpC_len]; exact hc) nd.2 (fun x m => hr x (List.mem_cons_of_mem _ m)) h1 h2, bumpC_get cs k _ (by omega)]
    by_cases e : s = k
    · subst e
      rw [if_pos rfl, if_neg nd.1, if_pos List.mem_cons_self]
      omega
    · rw [if_neg (by omega)]
      by_cases m : s ∈ r
      · rw [if_pos m, if_pos (List.mem_cons_of_mem _ m)]
        omega
      · rw [if_neg m, if_neg fun z => (List.mem_cons.mp z).elim e m]
        omega
theorem cO_all {n : Int} (left : Bool) {o : List Int} (h : ∀ x ∈ o, 1 ≤ x ∧ x ≤ n) (nd : o.Nodup) : Cnt n (cO n left o) ∧ (cO n left o).sum = (nums left o).sum ∧ ∀ s, 1 ≤ s → s ≤ n → (cO n left o).getD (s - 1).toNat 0 = cntF (gos left o) s := by
  have key : ∀ (rs : List (List Int)) (cs : List Int), Cnt n cs → (∀ r ∈ rs, r.Nodup ∧ ∀ x ∈ r, 1 ≤ x ∧ x ≤ n) → Cnt n (rs.foldl addC cs) ∧ (rs.foldl addC cs).sum = cs.sum + (rs.map fun r => (r.length : Int)).sum ∧ ∀ s, 1 ≤ s → s ≤ n → (rs.foldl addC cs).getD (s - 1).toNat 0 = cs.getD (s - 1).toNat 0 + cntF rs s := by
    intro rs
    induction rs with
    | nil => exact fun cs hc _ => ⟨hc, by simp, fun s _ _ => by simp [cntF]⟩
    | cons r rs ih =>
      intro cs hc hr
      obtain ⟨r1, r2⟩ := hr r List.mem_cons_self
      obtain ⟨c1, s1⟩ := hc.add r2
      obtain ⟨a, b, c⟩ := ih (addC cs r) c1 fun x m => hr x (List.mem_cons_of_mem _ m)
      refine ⟨a, ?_, fun s h1 h2 => ?_⟩
      · show (rs.foldl addC (addC cs r)).sum = _
        rw [b, s1, List.map_cons, List.sum_cons]
        omega
      · show (rs.foldl addC (addC cs r)).getD _ 0 = _
        rw [c s h1 h2, addC_get (n := n) hc.len r1 r2 h1 h2]
        unfold cntF
        rw [List.filter_cons]
        by_cases m : s ∈ r
        · rw [if_pos m, if_pos (decide_eq_true m), List.length_cons]
          omega
        · rw [if_neg m, if_neg (by simpa using m)]
          omega
  obtain ⟨a, b, c⟩ := key (gos left o) (List.replicate n.toNat 0) (Cnt.zero n) fun r m => ⟨gos_nodup nd r m, fun x hx => h x (gos_sub r m x hx)⟩
  refine ⟨a, ?_, fun s h1 h2 => ?_⟩
  · show ((gos left o).foldl addC _).sum = _
    rw [b, zero_sum]
    unfold nums
    omega
  · show ((gos left o).foldl addC _).getD _ 0 = _
    rw [c s h1 h2]
    have : (List.replicate n.toNat (0 : Int)).getD (s - 1).toNat 0 = 0 := by
      rw [List.getD_eq_getElem?_getD, List.getElem?_replicate]
      split <;> rfl
    omega
theorem sum_pos_of {cs : List Int} (h : ∀ x ∈ cs, 0 ≤ x) : 0 ≤ cs.sum ∧ (cs.sum = 0 → ∀ x ∈ cs, x = 0) := by
  induction cs with
  | nil => exact ⟨by simp, fun _ x m => by cases m⟩
  | cons c cs ih =>
    obtain ⟨a, b⟩ := ih fun x m => h x (List.mem_cons_of_mem _ m)
    have hc := h c List.mem_cons_self
    rw [List.sum_cons]
    refine ⟨by omega, fun z x m => ?_⟩
    rcases List.mem_cons.mp m with rfl | m
    · omega
    · exact b (by omega) x m
theorem Cnt.sum0 {n : Int} {cs : List Int} (h : Cnt n cs) : cs = List.replicate n.toNat 0 ↔ cs.sum = 0 := by
  constructor
  · rintro rfl
    exact zero_sum _
  · intro z
    have := (sum_pos_of h.nn).2 z
    rw [← h.len]
    exact List.eq_replicate_iff.mpr ⟨rfl, this⟩
/-! those that sit elsewhere -/
theorem oth_out {tk : List Int} {s : Int} (h : s ∉ tk) : oth tk s = tk := by
  unfold oth
  rw [List.filter_eq_self]
  intro x m
  have : x ≠ s := fun z => h (z ▸ m)
  simp [this]
theorem oth_perm {tk l : List Int} {s : Int} (p : tk.Perm l) : (oth tk s).Perm (oth l s) := p.filter _
theorem oth_cons {l : List Int} {s : Int} (h : s ∉ l) : oth (s :: l) s = l := by
  have : oth (s :: l) s = oth l s := by
    unfold oth
    rw [List.filter_cons]
    simp
  rw [this, oth_out h]
theorem oth_snoc {l : List Int} {s : Int} (h : s ∉ l) : oth (l ++ [s]) s = l := by
  unfold oth
  rw [List.filter_append]
  have : l.filter (fun i => !decide (i = s)) = l := oth_out h
  rw [this]
  simp
/-- seats that are free -/
def Zs (n : Int) : List Int := (List.range n.toNat).map fun i => 1 + ((i : Nat) : Int)
def spr (n : Int) (o : List Int) : List Int := (Zs n).filter fun x => !decide (x ∈ o)
theorem spr_mem {n : Int} {o : List Int} {x : Int} (m : x ∈ spr n o) : 1 ≤ x ∧ x ≤ n ∧ x ∉ o := by
  obtain ⟨a, b⟩ := List.mem_filter.mp m
  obtain ⟨i, hi, rfl⟩ := List.mem_map.mp a
  have := List.mem_range.mp hi
  exact ⟨by omega, by omega, by simpa using b⟩
end K14
set_option Elab.async false
set_option linter.all false
set_option maxRecDepth 100000
set_option maxHeartbeats 1000000
namespace K14
open PySem PySem.Spec L2 Kn Kd
open PyProof.Rows hiding St
abbrev RR (C ab : Addr) (q : KA) : Rsc := prodR (bagR ab) (kepR C q)
section
variable (C ab : Addr) (q : KA) (n : Int) (left : Bool) (o : List Int)
abbrev sR (s5 s6 s7 s8 s9 s10 s11 s12 : Sl) (γ : (List Int × Int) × KG) : Tau (RR C ab q) := ⟨[.un, .rw (.ref ab), .sh (houseD n left), .sh (.tuple (nsD o)), .rw (.ref q.a), s5, s6, s7, s8, s9, s10, s11, s12, .un, .un], γ⟩
theorem mR {F : MFn C} {ga : DenA (RR C ab q)} {vals : List Val} {ds : List PyData} {v : Val} {sl : List Sl} {b : List Int × Int} {g g' : KG} (hs : sl[4]? = some (.rw (.ref q.a))) (e : ga ⟨sl, (b, g)⟩ = .ok (vals, ⟨sl, (b, g)⟩)) (a : allData vals = some ds) (ef : F q g ds = some (.ok v g')) (ho : v.out = true) : dMethE (Emb.snd (bagR ab) (kepR C q)) 4 F ga (⟨sl, (b, g)⟩ : Tau (RR C ab q)) = .ok (v, ⟨sl, (b, g')⟩) :=
  meth_ev (τ := ⟨sl, (b, g)⟩) (τ1 := ⟨sl, (b, g)⟩) (Emb.snd (bagR ab) (kepR C q)) hs e a ef ho
/-- the rows kept as they came -/
def ent (i : Nat) : Ent := (isort (o.take i), cO n left (o.take i))
def Hs (i : Nat) : List Ent := (List.range i).map (ent n left o)
theorem Hs_succ (i : Nat) : Hs n left o (i + 1) = Hs n left o i ++ [ent n left o i] := by
  unfold Hs
  rw [List.range_succ, List.map_append]
  rfl
theorem Hs_len (i : Nat) : (Hs n left o i).length = i := by
  unfold Hs
  rw [List.length_map, List.length_range]
theorem ixB {ns : List Int} {i : Nat} {v : Int} (h : ns[i]? = some v) : fIx (.bo (nsD ns)) (.sh (.int (i : Nat))) = some (.sh (.int v)) := by
  have := atI_ns h
  generalize nsD ns = N at *
  rw [ev_fIx, ev_seq3]
  show (atI N (i : Nat)).map Val.sh = _
  rw [this]
  rfl
theorem sumB (ns : List Int) : fSum [.bo (nsD ns)] = some (.sh (.int ns.sum)) := by simp
theorem lenB (ns : List Int) : fLen [.bo (nsD ns)] = some (.sh (.int ns.length)) := by simp
theorem ixH : fIx (.sh (houseD n left)) (.sh (.int 0)) = some (.sh (.int n)) := by
  unfold houseD
  rw [ev_fIx]
  generalize PyData.str _ = y
  simp
theorem lenT (ns : List Int) : fLen [.sh (.tuple (nsD ns))] = some (.sh (.int ns.length)) := by simp
section
variable (h1 : 1 ≤ n) (h2 : n ≤ 60) (h : Ord n o)
include h1 h2 h
theorem st0 (d : List Int) (k : Int) : ∃ s6 s7, glr0 C ab q (sR C ab q n left o (.ow (nsD (nums left o))) .un .un .un .un .un .un .un ((d, k), gK n left (Hs n left o 1))) = .ok (.nx (sR C ab q n left o (.ow (nsD (nums left o))) s6 s7 .un .un .un .un .un ((d, k), gK n left (Hs n left o (o.length + 1))))) := by
  have hi : (dEnum (dCons (dVar 3) dNil) : DenI (RR C ab q)) (sR C ab q n left o (.ow (nsD (nums left o))) .un .un .un .un .un .un .un ((d, k), gK n left (Hs n left o 1))) = .ok (enumD 0 (nsD o), sR C ab q n left o (.ow (nsD (nums left o))) .un .un .un .un .un .un .un ((d, k), gK n left (Hs n left o 1))) := by
    unfold sR
    generalize nsD o = O
    generalize nsD (nums left o) = T
    simp
  unfold glr0
  rw [for_eq hi]
  obtain ⟨τ', e, s6, s7, rfl⟩ := forGo_at (R := RR C ab q) (set := setTup (setCons (setN 6) (setCons (setN 7) setNil))) (ds := enumD 0 (nsD o)) (gb := (dIfS (dOr (dTest (dOp fNe (dMethE (Emb.snd (bagR ab) (kepR C q)) 4 (F_Kept_would C) (dCons (dBor 7) dNil)) (dOp fIx (dBor 5) (dBor 6)))) (dTest (dOp fNe (dCB fLen (dCons (dMethE (Emb.snd (bagR ab) (kepR C q)) 4 (F_Kept_come C) (dCons (dBor 7) dNil)) dNil)) (dOp fIx (dBor 5) (dBor 6))))) (dRet (dC (.bool false))) dNx))
    (τ := sR C ab q n left o (.ow (nsD (nums left o))) .un .un .un .un .un .un .un ((d, k), gK n left (Hs n left o 1)))
    (fun i τ => ∃ s6 s7, τ = sR C ab q n left o (.ow (nsD (nums left o))) s6 s7 .un .un .un .un .un ((d, k), gK n left (Hs n left o (i + 1)))) ⟨.un, .un, rfl⟩ fun i dd τ hd hp => by
      obtain ⟨s6, s7, rfl⟩ := hp
      rw [enum_ns, List.getElem?_map] at hd
      obtain ⟨i', hi', rfl⟩ := Option.map_eq_some_iff.mp hd
      have hil : i < o.length := by
        obtain ⟨z, _⟩ := List.getElem?_eq_some_iff.mp hi'
        rwa [List.length_range] at z
      rw [List.getElem?_range hil] at hi'
      cases hi'
      have ex : o[i]? = some o[i] := List.getElem?_eq_getElem hil
      have eg : o.getD i 0 = o[i] := by rw [List.getD_eq_getElem?_getD, ex]; rfl
      have e0 : 0 + i = i := Nat.zero_add i
      rw [eg, e0]
      generalize hx : o[i] = x at *
      obtain ⟨x1, x2⟩ := h.rg x (hx ▸ List.getElem_mem hil)
      have hxn : x ∉ o.take i := fun m => by
        obtain ⟨j, hj, ej⟩ := List.mem_take_iff_getElem.mp m
        have nd := List.nodup_iff_pairwise_ne.mp h.nd
        have hj2 : j < i := by omega
        exact (List.pairwise_iff_getElem.mp nd j i (by omega) hil hj2) (ej.trans hx.symm)
      have hxs : x ∉ isort (o.take i) := fun m => hxn (mem_isort.mp m)
      have hlen : (o.take i).length ≤ 40 := Nat.le_trans (List.length_take_le' _ _) h.ln
      have hrg : ∀ y ∈ o.take i, 1 ≤ y ∧ y ≤ n := fun y m => h.rg y (List.mem_of_mem_take m)
      have hnd : (o.take i).Nodup := h.nd.sublist (List.take_sublist _ _)
      obtain ⟨hcnt, _, _⟩ := cO_all left hrg hnd
      have hlr : (Hs n left o i).length ≤ 40 := by rw [Hs_len]; have := h.ln; omega
      have ep : pas left (isort (o.take i)) x = pas left (o.take i) x := pas_of_perm (isort_perm _)
      have eW := e_would C q n left (Hs n left o i) (isort (o.take i)) (cO n left (o.take i)) x x1 x2 hxs (by rw [isort_length]; omega)
      have eC := e_come C q n left (Hs n left o i) (isort (o.take i)) (cO n left (o.take i)) x x1 x2 hxs (by omega) (by rw [isort_length]; omega) (fun y m => hrg y (mem_isort.mp m)) h2 hcnt.len
      have eG : gone left (isort (o.take i)) x = pas left (o.take i) x := by
        unfold gone
        rw [oth_out hxs, ep]
      have eT : o.take (i + 1) = o.take i ++ [x] := take_succ' o i x (hx ▸ ex)
      have eE : (isort (isort (o.take i) ++ [x]), addC (cO n left (o.take i)) (pas left (o.take i) x)) = ent n left o (i + 1) := by
        unfold ent
        rw [eT, cO_snoc, isort_of_perm ((isort_perm (o.take i)).append_right [x])]
      have eH : Hs n left o i ++ [(isort (o.take i), cO n left (o.take i))] = Hs n left o (i + 1) := (Hs_succ n left o i).symm
      rw [eG, eE, eH, ← Hs_succ] at eC
      rw [ep, eH] at eW
      have en := nums_get (left := left) (hx ▸ ex : o[i]? = some x)
      generalize (pas left (o.take i) x) = r at *
      refine ⟨sR C ab q n left o (.ow (nsD (nums left o))) (.sh (.int (i : Nat))) (.sh (.int x)) .un .un .un .un .un ((d, k), gK n left (Hs n left o (i + 1))), sR C ab q n left o (.ow (nsD (nums left o))) (.sh (.int (i : Nat))) (.sh (.int x)) .un .un .un .un .un ((d, k), gK n left (Hs n left o (i + 1 + 1))), rfl, .inl ?_, _, _, rfl⟩
      refine if_no (or_no (neS (a := .sh (.int r.length)) (b := .sh (.int r.length)) (k := 1) (mR C ab q rfl (cons_ev rfl nil_ev) rfl eW rfl) (op_ev rfl rfl (ixB en)) rfl rfl SH.int) (neS (a := .sh (.int r.length)) (b := .sh (.int r.length)) (k := 1) (cb_ev (cons_ev (mR C ab q rfl (cons_ev rfl nil_ev) rfl eC rfl) nil_ev) (lenT r)) (op_ev rfl rfl (ixB en)) rfl rfl SH.int))
  refine ⟨s6, s7, ?_⟩
  rw [e]
  have el : (enumD 0 (nsD o)).length = o.length := by rw [enumD_len, List.length_map]
  rw [el]
theorem ent_all : ent n left o o.length = (isort o, cO n left o) := by
  unfold ent
  rw [List.take_length]
theorem st1 (d : List Int) (k : Int) (s6 s7 : Sl) (L : List Ent) : glr1 C ab q (sR C ab q n left o (.ow (nsD (nums left o))) s6 s7 .un .un .un .un .un ((d, k), gK n left (L ++ [(isort o, cO n left o)]))) = .ok (.nx (sR C ab q n left o (.ow (nsD (nums left o))) s6 s7 (.ow (nsD (cO n left o))) .un .un .un .un ((d, k), gK n left (L ++ [(isort o, cO n left o)])))) :=
  set_ev (mR C ab q rfl nil_ev rfl (e_stood C q n left L _ _) rfl) rfl (by show 8 < 15; decide)
theorem st2 (d : List Int) (k : Int) (s6 s7 : Sl) (L : List Ent) : glr2 C ab q (sR C ab q n left o (.ow (nsD (nums left o))) s6 s7 (.ow (nsD (cO n left o))) .un .un .un .un ((d, k), gK n left L)) = .ok (.nx (sR C ab q n left o (.ow (nsD (nums left o))) s6 .un (.ow (nsD (cO n left o))) .un .un .un .un ((d, k), gK n left L))) := by
  obtain ⟨hcnt, _, hget⟩ := cO_all left h.rg h.nd
  have et := e_times n left o h1 h2 h
  obtain ⟨g, hg⟩ : ∃ g : (List Int × Int) × KG, g = ((d, k), gK n left L) := ⟨_, rfl⟩
  rw [← hg]
  have eS : fSortedA [.sh (.tuple (nsD o))] = some (.fr (nsD (isort o))) := by simp
  have lc := lcGo_mapI (R := RR C ab q) (set := setN 7) (ge := dTup (dCons (dVar 7) (dCons (dSh (dOp fIx (dBor 8) (dOp fSubI (dBor 7) (dC (.int 1))))) dNil))) (vs := [7]) (τ := sR C ab q n left o (.ow (nsD (nums left o))) s6 .un (.ow (nsD (cO n left o))) .un .un .un .un g)
    (fun s => .tuple [.int s, .int (cntF (gos left o) s)]) (isort o) fun s hs => by
      obtain ⟨a, b⟩ := h.rg s (mem_isort.mp hs)
      have hj : (s - 1).toNat < (cO n left o).length := by rw [hcnt.len]; omega
      have e1 : (cO n left o)[(s - 1).toNat]? = some (cntF (gos left o) s) := by
        rw [← hget s a b, List.getD_eq_getElem?_getD, List.getElem?_eq_getElem hj]
        rfl
      have e2 : ((s - 1).toNat : Int) = s - 1 := Int.toNat_of_nonneg (by omega)
      have e3 := ixB e1
      rw [e2] at e3
      exact ⟨sR C ab q n left o (.ow (nsD (nums left o))) s6 (.sh (.int s)) (.ow (nsD (cO n left o))) .un .un .un .un g, rfl, tup_ev (cons_ev rfl (cons_ev (sh_ev (op_ev rfl (op_ev rfl rfl (ev_fSubI s 1)) e3)) nil_ev)) rfl (by show 2 ≤ 100000; decide), rfl⟩
  have eM : (isort o).map (fun s => PyData.tuple [.int s, .int (cntF (gos left o) s)]) = prD (stod left o) := by
    unfold stod
    show _ = List.map _ (List.map _ _)
    rw [List.map_map]
    rfl
  rw [eM] at lc
  have hz : (nsD (isort o)).length ≤ sizeLine := by rw [List.length_map, isort_length]; exact h.sz
  exact if_no (neS (d := .list (prD (stod left o))) (k := 3) (lc_eq (τ1 := sR C ab q n left o (.ow (nsD (nums left o))) s6 s7 (.ow (nsD (cO n left o))) .un .un .un .un g) (seq_ev (shf_ev (cb_ev (cons_ev rfl nil_ev) eS))) hz lc) (call_ev (cons_ev rfl (cons_ev rfl nil_ev)) rfl et rfl) rfl rfl (SH.list SH.pr))
theorem st3 (d : List Int) (k : Int) (s6 : Sl) (L : List Ent) : glr3 C ab q (sR C ab q n left o (.ow (nsD (nums left o))) s6 .un (.ow (nsD (cO n left o))) .un .un .un .un ((d, k), gK n left (L ++ [(isort o, cO n left o)]))) = .ok (.nx (sR C ab q n left o (.ow (nsD (nums left o))) s6 .un (.ow (nsD (cO n left o))) .un .un .un .un ((d, k), gK n left (L ++ [(isort o, cO n left o)])))) := by
  obtain ⟨_, hsum, _⟩ := cO_all left h.rg h.nd
  have eT := e_total C q n left L (isort o) (cO n left o)
  have eK := e_taken C q n left L (isort o) (cO n left o)
  rw [hsum] at eT
  have eS : fSortedA [.sh (.tuple (nsD o))] = some (.fr (nsD (isort o))) := by simp
  obtain ⟨g, hg⟩ : ∃ g : KG, g = gK n left (L ++ [(isort o, cO n left o)]) := ⟨_, rfl⟩
  rw [← hg] at eT eK ⊢
  exact if_no (or_no (neS (d := .int (nums left o).sum) (k := 1) (mR C ab q rfl nil_ev rfl eT rfl) (cb_ev (cons_ev rfl nil_ev) (sumB _)) rfl rfl SH.int) (neS (d := .tuple (nsD (isort o))) (k := 2) (mR C ab q rfl nil_ev rfl eK rfl) (cb_ev (cons_ev (cb_ev (cons_ev rfl nil_ev) eS) nil_ev) rfl) rfl rfl (SH.tup SH.nsD)))
theorem st4 (d : List Int) (k : Int) (s6 : Sl) (g : KG) : glr4 C ab q (sR C ab q n left o (.ow (nsD (nums left o))) s6 .un (.ow (nsD (cO n left o))) .un .un .un .un ((d, k), g)) = .ok (.nx (sR C ab q n left o (.ow (nsD (nums left o))) s6 .un (.ow (nsD (cO n left o))) (.ow (nsD (spr n o))) .un .un .un ((d, k), g))) := by
  have ei : (dRng2 (dCons (dC (.int 1)) (dCons (dOp fAdd (dOp fIx (dBor 2) (dC (.int 0))) (dC (.int 1))) dNil)) : DenI (RR C ab q)) (sR C ab q n left o (.ow (nsD (nums left o))) s6 .un (.ow (nsD (cO n left o))) .un .un .un .un ((d, k), g)) = .ok (nsD (Zs n), sR C ab q n left o (.ow (nsD (nums left o))) s6 .un (.ow (nsD (cO n left o))) .un .un .un .un ((d, k), g)) := by
    have := rng2_ev (R := RR C ab q) (g := dCons (dC (.int 1)) (dCons (dOp fAdd (dOp fIx (dBor 2) (dC (.int 0))) (dC (.int 1))) dNil)) (τ := sR C ab q n left o (.ow (nsD (nums left o))) s6 .un (.ow (nsD (cO n left o))) .un .un .un .un ((d, k), g)) (τ' := sR C ab q n left o (.ow (nsD (nums left o))) s6 .un (.ow (nsD (cO n left o))) .un .un .un .un ((d, k), g)) (i := 1) (j := n + 1) (cons_ev rfl (cons_ev (op_ev (op_ev rfl rfl (ixH n left)) rfl (ev_fAdd n 1)) nil_ev)) (inR_of (by decide) (by decide)) (inR_of (by omega) (by omega))
    rw [this]
    have e : (n + 1 - 1).toNat = n.toNat := by omega
    rw [e]
    have e2 : rng 1 n.toNat = nsD (Zs n) := by
      unfold Zs
      show _ = List.map _ (List.map _ _)
      rw [List.map_map]
      rfl
    rw [e2]
  have lc := lcGo_filtI (R := RR C ab q) (set := setN 7) (gt := dTest (dOp fNotInA (dBor 7) (dBor 3))) (ge := dVar 7) (vs := [7]) (τ := sR C ab q n left o (.ow (nsD (nums left o))) s6 .un (.ow (nsD (cO n left o))) .un .un .un .un ((d, k), g)) (fun x => !decide (x ∈ o)) (Zs n) fun x hx => ⟨_, rfl, test_ev (op_ev rfl rfl (fNotInA_ok (ns := o) rfl)), rfl, rfl⟩
  have hz : (nsD (Zs n)).length ≤ sizeLine := by
    unfold Zs
    rw [List.length_map, List.length_map, List.length_range]
    exact small' (by omega)
  unfold glr4
  exact set_ev (v := .fr (nsD (spr n o))) (lc_eq ei hz lc) rfl (by show 9 < 15; decide)
end
end
end K14
set_option Elab.async false
set_option linter.all false
set_option maxRecDepth 100000
set_option maxHeartbeats 1000000
namespace K14
open PySem PySem.Spec L2 Kn Kd
open PyProof.Rows hiding St
theorem fNe_tup {a b : List Int} : fNe (.sh (.tuple (nsD a))) (.sh (.tuple (nsD b))) = some (.sh (.bool (!decide (a = b)))) := by
  rw [fNe_ok (d := .tuple (nsD a)) (e := .tuple (nsD b)) rfl rfl (SH.tup SH.nsD) (SH.tup SH.nsD), eqv_tupI]
theorem fNe_lst {a b : List Int} {va vb : Val} (ha : va.data = some (.list (nsD a))) (hb : vb.data = some (.list (nsD b))) : fNe va vb = some (.sh (.bool (!decide (a = b)))) := by
  rw [fNe_ok (d := .list (nsD a)) (e := .list (nsD b)) ha hb (SH.list SH.nsD) (SH.list SH.nsD), eqv_listI]
/-! places of an order, in another order -/
theorem picks_perm {o pl : List Int} (nd : pl.Nodup) (rg : ∀ x ∈ pl, 1 ≤ x ∧ x ≤ (o.length : Int)) (ln : pl.length = o.length) : (pl.map fun p => o.getD (p - 1).toNat 0).Perm o := by
  generalize hZ : (List.range o.length).map (fun i : Nat => 1 + (i : Int)) = Z
  have zn : Z.Nodup := by
    rw [← hZ, List.nodup_iff_pairwise_ne, List.pairwise_map]
    exact (List.nodup_iff_pairwise_ne.mp (List.nodup_range)).imp fun {a b} h e => h (by omega)
  have zm : ∀ x, x ∈ Z ↔ (1 ≤ x ∧ x ≤ (o.length : Int)) := fun x => by
    rw [← hZ, List.mem_map]
    refine ⟨fun ⟨i, hi, e⟩ => ?_, fun h => ⟨(x - 1).toNat, ?_, ?_⟩⟩
    · have := List.mem_range.mp hi
      omega
    · exact List.mem_range.mpr (by omega)
    · omega
  have zl : Z.length = o.length := by rw [← hZ, List.length_map, List.length_range]
  have p1 : pl.Perm Z := by
    refine (List.perm_ext_iff_of_nodup nd zn).mpr fun x => ⟨fun m => (zm x).mpr (rg x m), fun m => ?_⟩
    by_cases hx : x ∈ pl
    · exact hx
    · have := nodup_len (m := Z) (List.nodup_cons.mpr ⟨hx, nd⟩) fun y hy => by
        rcases List.mem_cons.mp hy with rfl | hy
        · exact m
        · exact (zm y).mpr (rg y hy)
      rw [zl, List.length_cons, ln] at this
      omega
  have e : Z.map (fun p => o.getD (p - 1).toNat 0) = o := by
    rw [← hZ, List.map_map]
    apply List.ext_getElem?
    intro i
    rw [List.getElem?_map]
    by_cases hi : i < o.length
    · rw [List.getElem?_range hi, List.getElem?_eq_getElem hi]
      have e1 : (1 + (i : Int) - 1).toNat = i := by omega
      show some (o.getD (1 + (i : Int) - 1).toNat 0) = _
      rw [e1, List.getD_eq_getElem?_getD, List.getElem?_eq_getElem hi]
      rfl
    · rw [List.getElem?_eq_none (by rw [List.length_range]; omega), List.getElem?_eq_none (by omega)]
      rfl
  have p2 := p1.map (fun p => o.getD (p - 1).toNat 0)
  rw [e] at p2
  exact p2
/-- who is past those behind, one after the other -/
def lvs (left : Bool) : List Int → List Int
  | [] => []
  | x :: xs => ((pas left xs x).length : Int) :: lvs left xs
theorem lvs_eq (left : Bool) : ∀ xs : List Int, lvn left xs = lvs left xs
  | [] => rfl
  | x :: xs => by
    unfold lvn lvs
    rw [List.length_cons, List.range_succ_eq_map, List.map_cons, List.map_map, ← lvs_eq left xs]
    rfl
section
variable (C ab : Addr) (q : KA) (n : Int) (left : Bool) (o : List Int)
theorem cR {F : BFn} {ga : DenA (RR C ab q)} {vals : List Val} {ds : List PyData} {v : Val} {sl : List Sl} {b b' : List Int × Int} {g : KG} (e : ga ⟨sl, (b, g)⟩ = .ok (.rw (.ref ab) :: vals, ⟨sl, (b, g)⟩)) (a : allData vals = some ds) (ef : F ab b ds = some (.ok v b')) (ho : v.out = true) : dCallE (Rs := bagR) (i := ab) id (Emb.fst (bagR ab) (kepR C q)) F ga (⟨sl, (b, g)⟩ : Tau (RR C ab q)) = .ok (v, ⟨sl, (b', g)⟩) := by
  unfold dCallE
  rw [e]
  show (if V.ref ab = V.ref ab then _ else _) = _
  rw [if_pos rfl]
  simp only [a]
  unfold resE
  have ef' : F ab ((Emb.fst (bagR ab) (kepR C q)).get (⟨sl, (b, g)⟩ : Tau (RR C ab q)).γ) ds = some (.ok v b') := ef
  rw [ef']
  simp only [ho, if_true]
section
variable (h1 : 1 ≤ n) (h2 : n ≤ 60) (h : Ord n o)
include h1 h2 h
theorem st5 (d : List Int) (k : Int) (hd0 : 0 < d.length) (s6 : Sl) (L : List Ent) (hL : L.length ≤ 100) : ∃ k' s7 s10, glr5 C ab q (sR C ab q n left o (.ow (nsD (nums left o))) s6 .un (.ow (nsD (cO n left o))) (.ow (nsD (spr n o))) .un .un .un ((d, k), gK n left (L ++ [(isort o, cO n left o)])))
    = .ok (.nx (sR C ab q n left o (.ow (nsD (nums left o))) s6 s7 (.ow (nsD (cO n left o))) (.ow (nsD (spr n o))) s10 .un .un ((d, k'), gK n left (L ++ [(isort o, cO n left o)])))) := by
  obtain ⟨hcnt, hsum, _⟩ := cO_all left h.rg h.nd
  have eN : (dOp fNe (dBor 9) (dLst dNil) : Den (RR C ab q)) (sR C ab q n left o (.ow (nsD (nums left o))) s6 .un (.ow (nsD (cO n left o))) (.ow (nsD (spr n o))) .un .un .un ((d, k), gK n left (L ++ [(isort o, cO n left o)]))) = .ok (.sh (.bool (!decide (spr n o = []))), sR C ab q n left o (.ow (nsD (nums left o))) s6 .un (.ow (nsD (cO n left o))) (.ow (nsD (spr n o))) .un .un .un ((d, k), gK n left (L ++ [(isort o, cO n left o)]))) :=
    op_ev (a := .bo (nsD (spr n o))) (b := .fr (nsD [])) rfl (lst_ev nil_ev rfl (by show 0 ≤ 100000; decide)) (fNe_lst rfl rfl)
  have hmem := fun x (m : x ∈ spr n o) => spr_mem m
  generalize spr n o = sp at *
  by_cases hs : sp = []
  · refine ⟨k, .un, .un, ?_⟩
    rw [decide_eq_true hs] at eN
    exact if_no (test_ev eN)
  · rw [decide_eq_false hs] at eN
    have hpos : 0 < sp.length := List.length_pos_iff.mpr hs
    have hm : (0 : Int) < sp.length := by omega
    have c := e_take ab d k sp.length hm hd0
    have t1 := takeR_nn (γ := (d, k)) hm
    have t2 := takeR_lt (γ := (d, k)) hm
    generalize takeR (d, k) sp.length = t at *
    obtain ⟨t', rfl⟩ : ∃ t' : Nat, t = t' := ⟨t.toNat, (Int.toNat_of_nonneg t1).symm⟩
    have ht : t' < sp.length := by omega
    obtain ⟨x1, x2, x3⟩ := hmem sp[t'] (List.getElem_mem ht)
    have ex : sp[t']? = some sp[t'] := List.getElem?_eq_getElem ht
    generalize sp[t'] = x at *
    have hxs : x ∉ isort o := fun m => x3 (mem_isort.mp m)
    have hol := h.ln
    have hrgs : ∀ y ∈ isort o, 1 ≤ y ∧ y ≤ n := fun y m => h.rg y (mem_isort.mp m)
    have eC := e_come C q n left L (isort o) (cO n left o) x x1 x2 hxs (by omega) (by rw [isort_length]; omega) hrgs h2 hcnt.len
    have er0 : gone left (isort o) x = pas left (isort o) x := by
      unfold gone
      rw [oth_out hxs]
    have hrr : ∀ y ∈ pas left (isort o) x, 1 ≤ y ∧ y ≤ n := fun y m => hrgs y (pas_sub m)
    have pt : (isort (isort o ++ [x])).Perm (isort o ++ [x]) := isort_perm _
    have po : (oth (isort (isort o ++ [x])) x).Perm (isort o) := by
      have := oth_perm (s := x) pt
      rw [oth_snoc hxs] at this
      exact this
    have er1 : gone left (isort (isort o ++ [x])) x = pas left (isort o) x := by
      unfold gone
      exact pas_of_perm po
    obtain ⟨c1, s1⟩ := hcnt.add hrr
    obtain ⟨c2, s2⟩ := c1.add hrr
    rw [er0] at eC
    have eV := e_kleave C q n left (L ++ [(isort o, cO n left o)]) (isort (isort o ++ [x])) (addC (cO n left o) (pas left (isort o) x)) x x1 x2 (mem_isort.mpr (List.mem_append_right _ List.mem_cons_self)) (by rw [List.length_append]; simp; omega) (by rw [isort_length, List.length_append, isort_length]; simp; omega) (fun y m => by
      rcases List.mem_append.mp (mem_isort.mp m) with m | m
      · exact hrgs y m
      · rw [List.mem_singleton] at m
        subst m
        exact ⟨x1, x2⟩) h2 c1.len
    rw [er1] at eV
    have eT := e_total C q n left (L ++ [(isort o, cO n left o)] ++ [(isort (isort o ++ [x]), addC (cO n left o) (pas left (isort o) x))]) (oth (isort (isort o ++ [x])) x) (addC (addC (cO n left o) (pas left (isort o) x)) (pas left (isort o) x))
    rw [s2, s1, hsum] at eT
    have eB1 := e_back C q n left (L ++ [(isort o, cO n left o)] ++ [(isort (isort o ++ [x]), addC (cO n left o) (pas left (isort o) x))]) (oth (isort (isort o ++ [x])) x, addC (addC (cO n left o) (pas left (isort o) x)) (pas left (isort o) x)) (by simp)
    have eB2 := e_back C q n left (L ++ [(isort o, cO n left o)]) (isort (isort o ++ [x]), addC (cO n left o) (pas left (isort o) x)) (by simp)
    generalize pas left (isort o) x = r at *
    generalize gK n left (L ++ [(isort o, cO n left o)] ++ [(isort (isort o ++ [x]), addC (cO n left o) r)] ++ [(oth (isort (isort o ++ [x])) x, addC (addC (cO n left o) r) r)]) = g2 at *
    generalize gK n left (L ++ [(isort o, cO n left o)] ++ [(isort (isort o ++ [x]), addC (cO n left o) r)]) = g1 at *
    generalize gK n left (L ++ [(isort o, cO n left o)]) = g0 at *
    refine ⟨k + 1, .sh (.int x), .sh (.tuple (nsD r)), ?_⟩
    have e1 : (dSet 7 (dOp fIx (dBor 9) (dCallE (Rs := bagR) (i := ab) id (Emb.fst (bagR ab) (kepR C q)) F__law_take (dCons (dVar 1) (dCons (dCB fLen (dCons (dBor 9) dNil)) dNil)))) : DenS (RR C ab q)) (sR C ab q n left o (.ow (nsD (nums left o))) s6 .un (.ow (nsD (cO n left o))) (.ow (nsD sp)) .un .un .un ((d, k), g0))
        = .ok (.nx (sR C ab q n left o (.ow (nsD (nums left o))) s6 (.sh (.int x)) (.ow (nsD (cO n left o))) (.ow (nsD sp)) .un .un .un ((d, k + 1), g0))) :=
      set_ev (v := .sh (.int x)) (τ1 := sR C ab q n left o (.ow (nsD (nums left o))) s6 .un (.ow (nsD (cO n left o))) (.ow (nsD sp)) .un .un .un ((d, k + 1), g0)) (op_ev (a := .bo (nsD sp)) (b := .sh (.int t')) rfl (cR C ab q (cons_ev rfl (cons_ev (cb_ev (cons_ev rfl nil_ev) (lenB sp)) nil_ev)) rfl c rfl) (ixB ex)) rfl (by show 7 < 15; decide)
    have e2 : (dSet 10 (dMethE (Emb.snd (bagR ab) (kepR C q)) 4 (F_Kept_come C) (dCons (dBor 7) dNil)) : DenS (RR C ab q)) (sR C ab q n left o (.ow (nsD (nums left o))) s6 (.sh (.int x)) (.ow (nsD (cO n left o))) (.ow (nsD sp)) .un .un .un ((d, k + 1), g0))
        = .ok (.nx (sR C ab q n left o (.ow (nsD (nums left o))) s6 (.sh (.int x)) (.ow (nsD (cO n left o))) (.ow (nsD sp)) (.sh (.tuple (nsD r))) .un .un ((d, k + 1), g1))) :=
      set_ev (v := .sh (.tuple (nsD r))) (τ1 := sR C ab q n left o (.ow (nsD (nums left o))) s6 (.sh (.int x)) (.ow (nsD (cO n left o))) (.ow (nsD sp)) .un .un .un ((d, k + 1), g1)) (mR C ab q rfl (cons_ev rfl nil_ev) rfl eC rfl) rfl (by show 10 < 15; decide)
    have eTot : ((nums left o).sum + (r.length : Int) + (r.length : Int)) = (nums left o).sum + 2 * (r.length : Int) := by omega
    rw [eTot] at eT
    have eMul : fMul (.sh (.int 2)) (.sh (.int r.length)) = some (.sh (.int (2 * (r.length : Int)))) := fMul_ok (.inl ⟨by decide, by decide⟩)
    have e3 : (dIfS (dOr (dTest (dOp fNe (dMethE (Emb.snd (bagR ab) (kepR C q)) 4 (F_Kept_leave C) (dCons (dBor 7) dNil)) (dBor 10))) (dTest (dOp fNe (dMethE (Emb.snd (bagR ab) (kepR C q)) 4 (F_Kept_total C) dNil) (dOp fAdd (dCB fSum (dCons (dBor 5) dNil)) (dOp fMul (dC (.int 2)) (dCB fLen (dCons (dBor 10) dNil))))))) (dRet (dC (.bool false))) dNx : DenS (RR C ab q)) (sR C ab q n left o (.ow (nsD (nums left o))) s6 (.sh (.int x)) (.ow (nsD (cO n left o))) (.ow (nsD sp)) (.sh (.tuple (nsD r))) .un .un ((d, k + 1), g1))
        = .ok (.nx (sR C ab q n left o (.ow (nsD (nums left o))) s6 (.sh (.int x)) (.ow (nsD (cO n left o))) (.ow (nsD sp)) (.sh (.tuple (nsD r))) .un .un ((d, k + 1), g2))) :=
      if_no (or_no (neS (a := .sh (.tuple (nsD r))) (b := .sh (.tuple (nsD r))) (d := .tuple (nsD r)) (k := 2) (mR C ab q rfl (cons_ev rfl nil_ev) rfl eV rfl) rfl rfl rfl (SH.tup SH.nsD))
        (neS (d := .int ((nums left o).sum + 2 * (r.length : Int))) (k := 1) (mR C ab q rfl nil_ev rfl eT rfl) (op_ev (cb_ev (cons_ev rfl nil_ev) (sumB _)) (op_ev rfl (cb_ev (cons_ev rfl nil_ev) (lenT r)) eMul) (ev_fAdd _ _)) rfl rfl SH.int))
    unfold glr5
    rw [ev_dIfS, test_ev eN]
    simp only [Out.bind_ok, if_true, Bool.not_false]
    rw [then_eq e1, then_eq e2, then_eq e3, then_eq (expr_ev (mR C ab q rfl nil_ev rfl eB1 rfl)), expr_ev (mR C ab q rfl nil_ev rfl eB2 rfl)]
end
end
end K14
set_option Elab.async false
set_option linter.all false
set_option maxRecDepth 100000
set_option maxHeartbeats 1000000
namespace K14
open PySem PySem.Spec L2 Kn Kd
open PyProof.Rows hiding St
section
variable (C ab : Addr) (q : KA) (n : Int) (left : Bool) (o : List Int)
theorem leav_e (s5 s6 s8 s9 s10 : Sl) (g : (List Int × Int) × KG) (p : Int) (a : 1 ≤ p) (b : p ≤ o.length) : (dSh (dOp fIx (dBor 3) (dOp fSubI (dBor 6) (dC (.int 1)))) : Den (RR C ab q)) (sR C ab q n left o s5 (.sh (.int p)) s6 s8 s9 s10 .un .un g) = .ok (.sh (.int (o.getD (p - 1).toNat 0)), sR C ab q n left o s5 (.sh (.int p)) s6 s8 s9 s10 .un .un g) := by
  have hj : (p - 1).toNat < o.length := by omega
  have i1 : atI (nsD o) (p - 1) = some (.int (o.getD (p - 1).toNat 0)) := atI_of (by omega) (by
    rw [List.getElem?_map, List.getElem?_eq_getElem hj, List.getD_eq_getElem?_getD, List.getElem?_eq_getElem hj]
    rfl)
  refine sh_ev (op_ev (a := .sh (.tuple (nsD o))) (b := .sh (.int (p - 1))) rfl (op_ev rfl rfl (ev_fSubI p 1)) ?_)
  generalize nsD o = O at *
  rw [ev_fIx, ev_seq1]
  show (atI O (p - 1)).map Val.sh = _
  rw [i1]
  rfl
theorem st6 (hol : o.length ≤ 40) (d : List Int) (k : Int) (hd0 : 0 < d.length) (s5 s6 s7 s8 s9 s10 : Sl) (g : KG) : ∃ L k', L.Perm o ∧ glr6 C ab q (sR C ab q n left o s5 s6 s7 s8 s9 s10 .un .un ((d, k), g)) = .ok (.nx (sR C ab q n left o s5 .un s7 s8 s9 s10 (.sh (.tuple (nsD L))) .un ((d, k'), g))) := by
  obtain ⟨pl, k', c, q1, q2, q3⟩ := e_mixed ab d k o.length (by omega) hd0
  obtain ⟨L, hL, hp⟩ : ∃ L, L = (pl.map fun p => o.getD (p - 1).toNat 0) ∧ L.Perm o := ⟨_, rfl, picks_perm q1 q2 q3⟩
  refine ⟨L, k', hp, ?_⟩
  have hl := lcGo_mapI (R := RR C ab q) (set := setN 6) (ge := dSh (dOp fIx (dBor 3) (dOp fSubI (dBor 6) (dC (.int 1))))) (vs := [6]) (τ := sR C ab q n left o s5 .un s7 s8 s9 s10 .un .un ((d, k'), g))
    (fun p => .int (o.getD (p - 1).toNat 0)) pl fun p hpm => ⟨_, rfl, leav_e C ab q n left o s5 s7 s8 s9 s10 ((d, k'), g) p (q2 p hpm).1 (q2 p hpm).2, rfl⟩
  have e5 : pl.map (fun p => PyData.int (o.getD (p - 1).toNat 0)) = nsD L := by
    rw [hL]
    show _ = List.map _ (List.map _ _)
    rw [List.map_map]
    rfl
  rw [e5] at hl
  have hz : (nsD pl).length ≤ sizeLine := by rw [List.length_map]; exact small' (by omega)
  have eL : fLen [.sh (.tuple (nsD o))] = some (.sh (.int o.length)) := lenT o
  exact set_ev (v := .sh (.tuple (nsD L))) (τ1 := sR C ab q n left o s5 .un s7 s8 s9 s10 .un .un ((d, k'), g)) (cb_ev (cons_ev (lc_eq (seqT_ev (sh_ev (cR C ab q (cons_ev rfl (cons_ev (cb_ev (cons_ev rfl nil_ev) eL) nil_ev)) rfl c rfl))) hz hl) nil_ev) rfl) rfl (by show 11 < 15; decide)
section
variable (h1 : 1 ≤ n) (h2 : n ≤ 60) (h : Ord n o)
include h1 h2 h
theorem st7 (lv : List Int) (p : lv.Perm o) (s5 s6 s7 s8 s9 s10 : Sl) (g : (List Int × Int) × KG) : glr7 C ab q (sR C ab q n left o s5 s6 s7 s8 s9 s10 (.sh (.tuple (nsD lv))) .un g) = .ok (.nx (sR C ab q n left o s5 s6 s7 s8 s9 s10 (.sh (.tuple (nsD lv))) (.ow (nsD (lvs left lv))) g)) := by
  have e := e_leave n left o lv h1 h2 h (h.perm p) p
  rw [lvs_eq] at e
  exact set_ev (v := .fr (nsD (lvs left lv))) (τ1 := sR C ab q n left o s5 s6 s7 s8 s9 s10 (.sh (.tuple (nsD lv))) .un g) (call_ev (vals := [.sh (houseD n left), .sh (.tuple (nsD o)), .sh (.tuple (nsD lv))]) (cons_ev rfl (cons_ev rfl (cons_ev rfl nil_ev))) rfl e rfl) rfl (by show 12 < 15; decide)
end
/-- they leave, one after the other -/
theorem lv_walk (h2 : n ≤ 60) (s5 s6 s8 s9 s10 s11 s12 : Sl) (b : List Int × Int) : ∀ (xs : List Int) (L : List Ent) (tk st : List Int) (acc : List PyData), tk.Perm xs → xs.Nodup → (∀ x ∈ xs, 1 ≤ x ∧ x ≤ n) → L.length + xs.length ≤ 1000 → Cnt n st →
    ∃ L' st', lcGo (setN 7) dYes (dSh (dCB fLen (dCons (dMethE (Emb.snd (bagR ab) (kepR C q)) 4 (F_Kept_leave C) (dCons (dBor 7) dNil)) dNil))) [7] (nsD xs) acc (sR C ab q n left o s5 s6 .un s8 s9 s10 s11 s12 (b, gK n left (L ++ [(tk, st)])))
      = .ok (acc ++ nsD (lvs left xs), sR C ab q n left o s5 s6 .un s8 s9 s10 s11 s12 (b, gK n left (L' ++ [([], st')]))) ∧ Cnt n st' ∧ st'.sum = st.sum + (lvs left xs).sum
  | [], L, tk, st, acc, hp, _, _, _, hc => by
    have : tk = [] := List.Perm.eq_nil hp
    subst this
    exact ⟨L, st, by simp [lcGo, lvs], hc, by simp [lvs]⟩
  | x :: xs, L, tk, st, acc, hp, nd, hr, hl, hc => by
    rw [List.nodup_cons] at nd
    obtain ⟨x1, x2⟩ := hr x List.mem_cons_self
    rw [List.length_cons] at hl
    have htl : tk.length ≤ 1000 := by rw [hp.length_eq, List.length_cons]; omega
    have hrt : ∀ y ∈ tk, 1 ≤ y ∧ y ≤ n := fun y m => hr y (hp.mem_iff.mp m)
    have eV := e_kleave C q n left L tk st x x1 x2 (hp.mem_iff.mpr List.mem_cons_self) (by omega) (by omega) hrt h2 hc.len
    have po : (oth tk x).Perm xs := by
      have := oth_perm (s := x) hp
      rw [oth_cons nd.1] at this
      exact this
    have er : gone left tk x = pas left xs x := by
      unfold gone
      exact pas_of_perm po
    rw [er] at eV
    have hrr : ∀ y ∈ pas left xs x, 1 ≤ y ∧ y ≤ n := fun y m => hr y (List.mem_cons_of_mem _ (pas_sub m))
    obtain ⟨c1, s1⟩ := hc.add hrr
    obtain ⟨L', st', e, c2, s2⟩ := lv_walk h2 s5 s6 s8 s9 s10 s11 s12 b xs (L ++ [(tk, st)]) (oth tk x) (addC st (pas left xs x)) (acc ++ [.int (pas left xs x).length]) po nd.2 (fun y m => hr y (List.mem_cons_of_mem _ m)) (by rw [List.length_append, List.length_singleton]; omega) c1
    refine ⟨L', st', ?_, c2, ?_⟩
    · have eg : (dSh (dCB fLen (dCons (dMethE (Emb.snd (bagR ab) (kepR C q)) 4 (F_Kept_leave C) (dCons (dBor 7) dNil)) dNil)) : Den (RR C ab q)) (sR C ab q n left o s5 s6 (.sh (.int x)) s8 s9 s10 s11 s12 (b, gK n left (L ++ [(tk, st)])))
          = .ok (.sh (.int (pas left xs x).length), sR C ab q n left o s5 s6 (.sh (.int x)) s8 s9 s10 s11 s12 (b, gK n left (L ++ [(tk, st)] ++ [(oth tk x, addC st (pas left xs x))]))) :=
        sh_ev (cb_ev (cons_ev (mR C ab q rfl (cons_ev rfl nil_ev) rfl eV rfl) nil_ev) (lenT _))
      show lcGo _ _ _ _ (.int x :: nsD xs) _ _ = _
      unfold lcGo
      rw [show setN 7 (.int x) (sR C ab q n left o s5 s6 .un s8 s9 s10 s11 s12 (b, gK n left (L ++ [(tk, st)]))) = some (sR C ab q n left o s5 s6 (.sh (.int x)) s8 s9 s10 s11 s12 (b, gK n left (L ++ [(tk, st)]))) from rfl]
      simp only [dYes, Out.bind_ok, if_true]
      rw [eg]
      simp only [Out.bind_ok]
      show lcGo _ _ _ _ (nsD xs) _ (sR C ab q n left o s5 s6 .un s8 s9 s10 s11 s12 (b, gK n left (L ++ [(tk, st)] ++ [(oth tk x, addC st (pas left xs x))]))) = _
      rw [e, List.append_assoc]
      rfl
    · rw [s2, s1]
      show _ = st.sum + (((pas left xs x).length : Int) :: lvs left xs).sum
      rw [List.sum_cons]
      omega
theorem st8 (h2 : n ≤ 60) (h : Ord n o) (lv : List Int) (p : lv.Perm o) (s5 s6 s7 s8 s9 s10 : Sl) (b : List Int × Int) (L : List Ent) (hL : L.length ≤ 100) (st : List Int) (hc : Cnt n st) :
    ∃ L' st', glr8 C ab q (sR C ab q n left o s5 s6 s7 s8 s9 s10 (.sh (.tuple (nsD lv))) (.ow (nsD (lvs left lv))) (b, gK n left (L ++ [(isort o, st)]))) = .ok (.nx (sR C ab q n left o s5 s6 .un s8 s9 s10 (.sh (.tuple (nsD lv))) (.ow (nsD (lvs left lv))) (b, gK n left (L' ++ [([], st')])))) ∧ Cnt n st' ∧ st'.sum = st.sum + (lvs left lv).sum := by
  have hlv := h.perm p
  have hll : lv.length ≤ 40 := hlv.ln
  obtain ⟨L', st', e, c2, s2⟩ := lv_walk C ab q n left o h2 s5 s6 s8 s9 s10 (.sh (.tuple (nsD lv))) (.ow (nsD (lvs left lv))) b lv L (isort o) st [] ((isort_perm o).trans p.symm) hlv.nd hlv.rg (by omega) hc
  refine ⟨L', st', ?_, c2, s2⟩
  rw [List.nil_append] at e
  have hz : (nsD lv).length ≤ sizeLine := by rw [List.length_map]; exact small' (by omega)
  have eLn := e_len C q n left L' [] st'
  have eO : dLenO (Emb.snd (bagR ab) (kepR C q)) 4 (F_Kept___len__ C) (sR C ab q n left o s5 s6 .un s8 s9 s10 (.sh (.tuple (nsD lv))) (.ow (nsD (lvs left lv))) (b, gK n left (L' ++ [([], st')]))) = .ok (.sh (.int 0), sR C ab q n left o s5 s6 .un s8 s9 s10 (.sh (.tuple (nsD lv))) (.ow (nsD (lvs left lv))) (b, gK n left (L' ++ [([], st')]))) := by
    have ef : F_Kept___len__ C q ((Emb.snd (bagR ab) (kepR C q)).get (sR C ab q n left o s5 s6 .un s8 s9 s10 (.sh (.tuple (nsD lv))) (.ow (nsD (lvs left lv))) (b, gK n left (L' ++ [([], st')]))).γ) [] = some (.ok (.sh (.int 0)) (gK n left (L' ++ [([], st')]))) := eLn
    unfold dLenO
    rw [atO_ev rfl, ef]
    simp only []
    rw [if_pos ⟨by decide, by decide⟩]
  exact if_no (or_no (neS (d := .list (nsD (lvs left lv))) (k := 2) (lc_eq (seqT_ev rfl) hz e) rfl rfl rfl (SH.list SH.nsD)) (neS (d := .int 0) (k := 1) eO rfl rfl rfl SH.int))
theorem st9 (lv : List Int) (s6 s7 s8 s9 s10 s11 : Sl) (b : List Int × Int) (L : List Ent) (st : List Int) (hs : st.sum = (nums left o).sum + (lvs left lv).sum) :
    glr9 C ab q (sR C ab q n left o (.ow (nsD (nums left o))) s6 s7 s8 s9 s10 s11 (.ow (nsD (lvs left lv))) (b, gK n left (L ++ [([], st)]))) = .ok (.nx (sR C ab q n left o (.ow (nsD (nums left o))) s6 s7 s8 s9 s10 s11 (.ow (nsD (lvs left lv))) (b, gK n left (L ++ [([], st)])))) := by
  have eT := e_total C q n left L [] st
  rw [hs] at eT
  exact if_no (neS (d := .int ((nums left o).sum + (lvs left lv).sum)) (k := 1) (mR C ab q rfl nil_ev rfl eT rfl) (op_ev (cb_ev (cons_ev rfl nil_ev) (sumB _)) (cb_ev (cons_ev rfl nil_ev) (sumB _)) (ev_fAdd _ _)) rfl rfl SH.int)
theorem st10 (h1 : 1 ≤ n) (h2 : n ≤ 60) (lv : List Int) (s6 s7 s8 s9 s10 s11 : Sl) (b : List Int × Int) (L : List Ent) (st : List Int) (hc : Cnt n st) (hs : st.sum = (nums left o).sum + (lvs left lv).sum) :
    glr10 C ab q (sR C ab q n left o (.ow (nsD (nums left o))) s6 s7 s8 s9 s10 s11 (.ow (nsD (lvs left lv))) (b, gK n left (L ++ [([], st)]))) = .ok (.nx (sR C ab q n left o (.ow (nsD (nums left o))) s6 s7 s8 s9 s10 s11 (.ow (nsD (lvs left lv))) (b, gK n left (L ++ [([], st)])))) := by
  have e := e_eq C (q, ⟨0, 0, 0⟩) n n left left L [] ([], st) ([], List.replicate n.toNat 0)
  have ed : decide (n = n ∧ left = left ∧ (([], st) : Ent) = ([], List.replicate n.toNat 0)) = decide ((nums left o).sum + (lvs left lv).sum = 0) := by
    rw [← hs]
    refine decide_eq_decide.mpr ⟨fun z => hc.sum0.mp ?_, fun z => ⟨rfl, rfl, ?_⟩⟩
    · exact congrArg Prod.snd z.2.2
    · rw [hc.sum0.mpr z]
  rw [ed] at e
  have eE : dEqNew okRow (Emb.snd (bagR ab) (kepR C q)) 4 (F_eq C) (dCons (dBor 2) dNil) (sR C ab q n left o (.ow (nsD (nums left o))) s6 s7 s8 s9 s10 s11 (.ow (nsD (lvs left lv))) (b, gK n left (L ++ [([], st)]))) = .ok (.sh (.bool (decide ((nums left o).sum + (lvs left lv).sum = 0))), sR C ab q n left o (.ow (nsD (nums left o))) s6 s7 s8 s9 s10 s11 (.ow (nsD (lvs left lv))) (b, gK n left (L ++ [([], st)]))) := by
    have ea : (dCons (dBor 2) dNil : DenA (RR C ab q)) (sR C ab q n left o (.ow (nsD (nums left o))) s6 s7 s8 s9 s10 s11 (.ow (nsD (lvs left lv))) (b, gK n left (L ++ [([], st)]))) = .ok ([.sh (houseD n left)], sR C ab q n left o (.ow (nsD (nums left o))) s6 s7 s8 s9 s10 s11 (.ow (nsD (lvs left lv))) (b, gK n left (L ++ [([], st)]))) := rfl
    have ef : F_eq C (q, ⟨0, 0, 0⟩) ((Emb.snd (bagR ab) (kepR C q)).get (sR C ab q n left o (.ow (nsD (nums left o))) s6 s7 s8 s9 s10 s11 (.ow (nsD (lvs left lv))) (b, gK n left (L ++ [([], st)]))).γ, (houseD n left, [past0 n])) [] = some (.ok (.sh (.bool (decide ((nums left o).sum + (lvs left lv).sum = 0)))) (gK n left (L ++ [([], st)]), gK n left ([] ++ [([], List.replicate n.toNat 0)]))) := e
    unfold dEqNew
    rw [atO_ev rfl, ea]
    simp only [Out.bind_ok, okRow_house h1 h2, ef]
  have eR : (dOp fEq (dOp fAdd (dCB fSum (dCons (dBor 5) dNil)) (dCB fSum (dCons (dBor 12) dNil))) (dC (.int 0)) : Den (RR C ab q)) (sR C ab q n left o (.ow (nsD (nums left o))) s6 s7 s8 s9 s10 s11 (.ow (nsD (lvs left lv))) (b, gK n left (L ++ [([], st)]))) = .ok (.sh (.bool (decide ((nums left o).sum + (lvs left lv).sum = 0))), sR C ab q n left o (.ow (nsD (nums left o))) s6 s7 s8 s9 s10 s11 (.ow (nsD (lvs left lv))) (b, gK n left (L ++ [([], st)]))) :=
    op_ev (op_ev (cb_ev (cons_ev rfl nil_ev) (sumB _)) (cb_ev (cons_ev rfl nil_ev) (sumB _)) (ev_fAdd _ _)) rfl (fEq_int _ _)
  exact if_no (neS eE eR rfl rfl (k := 1) SH.bool)
end
end K14
set_option Elab.async false
set_option linter.all false
set_option maxRecDepth 100000
set_option maxHeartbeats 1000000
namespace K14
open PySem PySem.Spec L2 Kn Kd
open PyProof.Rows hiding St
theorem good_law (C ab : Addr) (d : List Int) (hd : isDraw d) : GoodB C ab d := by
  have hd0 : 0 < d.length := by rw [hd.1]; decide
  obtain ⟨n, left, k1, h1, h2, e1⟩ := e_house ab d 0 60 (by decide) hd0
  obtain ⟨o, k2, e2, h⟩ := e_coming ab d k1 n 40 left h1 h2 (by decide) (by decide) hd0
  refine ⟨houseD n left, .tuple (nsD o), n, k1, k2, nsD (nums left o), okRow_house h1 h2, ⟨⟨[.un, .rw (.ref ab), .sh (houseD n left), .un, .un, .un, .un, .un, .un, .un, .un, .un, .un, .un, .un], (d, k1)⟩, ?_, ?_⟩, e_numbers n left o h1 h2 h, fun q => ?_⟩
  · show gl1 ab ⟨[.un, .rw (.ref ab), .un, .un, .un, .un, .un, .un, .un, .un, .un, .un, .un, .un, .un], (d, 0)⟩ = _
    unfold gl1
    generalize houseD n left = hh at *
    simp [e1]
  · unfold gl2
    generalize houseD n left = hh at *
    generalize nsD o = O at *
    cases hh with
    | _ => first | simp [e2] | trivial
  · have hcnt := (cO_all left h.rg h.nd).1
    have hsum := (cO_all left h.rg h.nd).2.1
    have hol := h.ln
    obtain ⟨s6, s7, e3⟩ := st0 C ab q n left o h1 h2 h d k2
    have eP : gK n left (Hs n left o (o.length + 1)) = gK n left (Hs n left o o.length ++ [(isort o, cO n left o)]) := by rw [Hs_succ, ent_all n left o h1 h2 h]
    have hLl : (Hs n left o o.length).length ≤ 100 := by rw [Hs_len]; omega
    have e0 : (houseD n left, [past0 n]) = gK n left (Hs n left o 1) := rfl
    rw [eP] at e3
    obtain ⟨k5, s7', s10, e5⟩ := st5 C ab q n left o h1 h2 h d k2 hd0 s6 (Hs n left o o.length) hLl
    obtain ⟨lv, k6, hp, e6⟩ := st6 C ab q n left o hol d k5 hd0 (.ow (nsD (nums left o))) s6 s7' (.ow (nsD (cO n left o))) (.ow (nsD (spr n o))) s10 (gK n left (Hs n left o o.length ++ [(isort o, cO n left o)]))
    obtain ⟨L', st', e8, c8, s8⟩ := st8 C ab q n left o h2 h lv hp (.ow (nsD (nums left o))) .un s7' (.ow (nsD (cO n left o))) (.ow (nsD (spr n o))) s10 (d, k6) (Hs n left o o.length) hLl (cO n left o) hcnt
    rw [hsum] at s8
    rw [e0]
    refine ⟨sR C ab q n left o (.ow (nsD (nums left o))) .un .un (.ow (nsD (cO n left o))) (.ow (nsD (spr n o))) s10 (.sh (.tuple (nsD lv))) (.ow (nsD (lvs left lv))) ((d, k6), gK n left (L' ++ [([], st')])), ?_, rfl⟩
    unfold glR
    rw [then_eq e3, then_eq (st1 C ab q n left o h1 h2 h d k2 s6 s7 _), then_eq (st2 C ab q n left o h1 h2 h d k2 s6 s7 _), then_eq (st3 C ab q n left o h1 h2 h d k2 s6 _), then_eq (st4 C ab q n left o h1 h2 h d k2 s6 _), then_eq e5, then_eq e6, then_eq (st7 C ab q n left o h1 h2 h lv hp _ _ _ _ _ _ _), then_eq e8, then_eq (st9 C ab q n left o lv _ _ _ _ _ _ _ L' st' s8)]
    exact st10 C ab q n left o h1 h2 lv _ _ _ _ _ _ _ L' st' c8 s8
/-! ### two rows at the end -/
section
variable (K : PySem.W.Frag) (C : Addr) (p : Addr × List Int) (q q2 : KA)
abbrev RE : Rsc := prodR (prodR (scrR K p) (kepR C q)) (kepR C q2)
abbrev sE (s7 : Sl) (g1 g2 : KG) : Tau (RE K C p q q2) := ⟨[.un, .un, .un, .un, .un, .un, .un, s7, .un, .un, .un, .un, .un, .rw (.ref q.a), .rw (.ref q2.a)], (((), g1), g2)⟩
abbrev z4 : List Int := [0, 0, 0, 0]
theorem come4 (r : KA) (l : List Ent) (tk : List Int) (s : Int) (tk2 : List Int) (h1 : 1 ≤ s) (h2 : s ≤ 4) (hx : s ∉ tk) (hl : l.length < 100) (ht : tk.length ≤ 100) (hr : ∀ x ∈ tk, 1 ≤ x ∧ x ≤ 4) (e : isort (tk ++ [s]) = tk2) (g : gone true tk s = []) :
    F_Kept_come C r (gK 4 true (l ++ [(tk, z4)])) [.int s] = some (.ok (.sh (.tuple (nsD []))) (gK 4 true (l ++ [(tk, z4)] ++ [(tk2, z4)]))) := by
  have := e_come C r 4 true l tk z4 s h1 h2 hx (by omega) (by omega) hr (by decide) rfl
  rw [g, e] at this
  exact this
theorem m1 {F : MFn C} {ga : DenA (RE K C p q q2)} {vals : List Val} {ds : List PyData} {v : Val} {s7 : Sl} {g1 g2 g' : KG} (e : ga (sE K C p q q2 s7 g1 g2) = .ok (vals, sE K C p q q2 s7 g1 g2)) (a : allData vals = some ds) (ef : F q g1 ds = some (.ok v g')) (ho : v.out = true) : dMethE (Emb.comp (Emb.snd (scrR K p) (kepR C q)) (Emb.fst (prodR (scrR K p) (kepR C q)) (kepR C q2))) 13 F ga (sE K C p q q2 s7 g1 g2) = .ok (v, sE K C p q q2 s7 g' g2) :=
  meth_ev (τ := sE K C p q q2 s7 g1 g2) (τ1 := sE K C p q q2 s7 g1 g2) (Emb.comp (Emb.snd (scrR K p) (kepR C q)) (Emb.fst (prodR (scrR K p) (kepR C q)) (kepR C q2))) rfl e a ef ho
theorem m2 {F : MFn C} {ga : DenA (RE K C p q q2)} {vals : List Val} {ds : List PyData} {v : Val} {s7 : Sl} {g1 g2 g' : KG} (e : ga (sE K C p q q2 s7 g1 g2) = .ok (vals, sE K C p q q2 s7 g1 g2)) (a : allData vals = some ds) (ef : F q2 g2 ds = some (.ok v g')) (ho : v.out = true) : dMethE (Emb.snd (prodR (scrR K p) (kepR C q)) (kepR C q2)) 14 F ga (sE K C p q q2 s7 g1 g2) = .ok (v, sE K C p q q2 s7 g1 g') :=
  meth_ev (τ := sE K C p q q2 s7 g1 g2) (τ1 := sE K C p q q2 s7 g1 g2) (Emb.snd (prodR (scrR K p) (kepR C q)) (kepR C q2)) rfl e a ef ho
abbrev e00 : Ent := ([], z4)
abbrev e01 : Ent := ([1], z4)
abbrev e02 : Ent := ([2], z4)
abbrev e12 : Ent := ([1, 2], z4)
theorem forGo2 {R : Rsc} {set : SetD R} {gb : DenS R} {a b : PyData} {τ τ1 τ2 τ3 τ4 : Tau R} (x1 : set a τ = some τ1) (x2 : gb τ1 = .ok (.nx τ2)) (x3 : set b τ2 = some τ3) (x4 : gb τ3 = .ok (.nx τ4)) : forGo set gb [a, b] τ = .ok (.nx τ4) := by
  simp [forGo, x1, x2, x3, x4]
theorem se0 : ger0 K C p q q2 (sE K C p q q2 .un (gK 4 true [e00]) (gK 4 true [e00])) = .ok (.nx (sE K C p q q2 (.sh (.int 2)) (gK 4 true [e00, e01, e12]) (gK 4 true [e00]))) := by
  have a1 := come4 C q [] [] 1 [1] (by decide) (by decide) (by decide) (by decide) (by decide) (fun x m => by cases m) rfl rfl
  have a2 := come4 C q [e00] [1] 2 [1, 2] (by decide) (by decide) (by decide) (by decide) (by decide) (fun x m => by rw [List.mem_singleton.mp m]; decide) rfl rfl
  unfold ger0
  exact (for_eq (seqT_ev (tup_ev (ds := [.int 1, .int 2]) (cons_ev rfl (cons_ev rfl nil_ev)) rfl (by show 2 ≤ 100000; decide)))).trans (forGo2 (τ1 := sE K C p q q2 (.sh (.int 1)) (gK 4 true [e00]) (gK 4 true [e00])) (τ2 := sE K C p q q2 (.sh (.int 1)) (gK 4 true [e00, e01]) (gK 4 true [e00])) (τ3 := sE K C p q q2 (.sh (.int 2)) (gK 4 true [e00, e01]) (gK 4 true [e00])) rfl (expr_ev (m1 K C p q q2 (cons_ev rfl nil_ev) rfl a1 rfl)) rfl (expr_ev (m1 K C p q q2 (cons_ev rfl nil_ev) rfl a2 rfl)))
theorem se1 : ger1 K C p q q2 (sE K C p q q2 (.sh (.int 2)) (gK 4 true [e00, e01, e12]) (gK 4 true [e00])) = .ok (.nx (sE K C p q q2 (.sh (.int 1)) (gK 4 true [e00, e01, e12]) (gK 4 true [e00, e02, e12]))) := by
  have a1 := come4 C q2 [] [] 2 [2] (by decide) (by decide) (by decide) (by decide) (by decide) (fun x m => by cases m) rfl rfl
  have a2 := come4 C q2 [e00] [2] 1 [1, 2] (by decide) (by decide) (by decide) (by decide) (by decide) (fun x m => by rw [List.mem_singleton.mp m]; decide) rfl rfl
  unfold ger1
  exact (for_eq (seqT_ev (tup_ev (ds := [.int 2, .int 1]) (cons_ev rfl (cons_ev rfl nil_ev)) rfl (by show 2 ≤ 100000; decide)))).trans (forGo2 (τ1 := sE K C p q q2 (.sh (.int 2)) (gK 4 true [e00, e01, e12]) (gK 4 true [e00])) (τ2 := sE K C p q q2 (.sh (.int 2)) (gK 4 true [e00, e01, e12]) (gK 4 true [e00, e02])) (τ3 := sE K C p q q2 (.sh (.int 1)) (gK 4 true [e00, e01, e12]) (gK 4 true [e00, e02])) rfl (expr_ev (m2 K C p q q2 (cons_ev rfl nil_ev) rfl a1 rfl)) rfl (expr_ev (m2 K C p q q2 (cons_ev rfl nil_ev) rfl a2 rfl)))
theorem se2 : ger2 K C p q q2 (sE K C p q q2 (.sh (.int 1)) (gK 4 true [e00, e01, e12]) (gK 4 true [e00, e02, e12])) = .ok (.rt (.sh (.bool true)) (sE K C p q q2 (.sh (.int 1)) (gK 4 true [e00, e01, e12]) (gK 4 true [e00, e02, e12]))) := by
  have b1 := e_eq C (q, q2) 4 4 true true [e00, e01] [e00, e02] e12 e12
  have b2 := e_eq C (q, ⟨0, 0, 0⟩) 4 4 true true [e00, e01] [] e12 e00
  have c1 : dEqE (Emb.lift (Emb.snd (scrR K p) (kepR C q)) (kepR C q2)) 13 14 (F_eq C) (sE K C p q q2 (.sh (.int 1)) (gK 4 true [e00, e01, e12]) (gK 4 true [e00, e02, e12])) = .ok (.sh (.bool true), sE K C p q q2 (.sh (.int 1)) (gK 4 true [e00, e01, e12]) (gK 4 true [e00, e02, e12])) := by
    have ef : F_eq C (q, q2) ((Emb.lift (Emb.snd (scrR K p) (kepR C q)) (kepR C q2)).get (sE K C p q q2 (.sh (.int 1)) (gK 4 true [e00, e01, e12]) (gK 4 true [e00, e02, e12])).γ) [] = some (.ok (.sh (.bool true)) (gK 4 true [e00, e01, e12], gK 4 true [e00, e02, e12])) := b1
    unfold dEqE
    rw [atO_ev rfl, atO_ev rfl, ef]
  have c2 : dEqNew okRow (Emb.comp (Emb.snd (scrR K p) (kepR C q)) (Emb.fst (prodR (scrR K p) (kepR C q)) (kepR C q2))) 13 (F_eq C) (dCons (dTup (dCons (dC (.int 4)) (dCons (dC (.str "left")) dNil))) dNil) (sE K C p q q2 (.sh (.int 1)) (gK 4 true [e00, e01, e12]) (gK 4 true [e00, e02, e12])) = .ok (.sh (.bool false), sE K C p q q2 (.sh (.int 1)) (gK 4 true [e00, e01, e12]) (gK 4 true [e00, e02, e12])) := by
    have ef : F_eq C (q, ⟨0, 0, 0⟩) ((Emb.comp (Emb.snd (scrR K p) (kepR C q)) (Emb.fst (prodR (scrR K p) (kepR C q)) (kepR C q2))).get (sE K C p q q2 (.sh (.int 1)) (gK 4 true [e00, e01, e12]) (gK 4 true [e00, e02, e12])).γ, (houseD 4 true, [past0 4])) [] = some (.ok (.sh (.bool false)) (gK 4 true [e00, e01, e12], gK 4 true [e00])) := b2
    unfold dEqNew
    rw [atO_ev rfl, dL_ev]
    simp only [Out.bind_ok, okNa, ef]
  have c3 : (dEqNN false (dCons (dTup (dCons (dC (.int 4)) (dCons (dC (.str "left")) dNil))) dNil) : Den (RE K C p q q2)) (sE K C p q q2 (.sh (.int 1)) (gK 4 true [e00, e01, e12]) (gK 4 true [e00, e02, e12])) = .ok (.sh (.bool false), sE K C p q q2 (.sh (.int 1)) (gK 4 true [e00, e01, e12]) (gK 4 true [e00, e02, e12])) := by
    unfold dEqNN
    rw [dL_ev]
    rfl
  unfold ger2
  refine ret_ev ?_
  rw [ev_dAndV, c1]
  simp only [Out.bind_ok]
  rw [ev_dAndV, ev_dNotV, c2]
  simp only [Out.bind_ok]
  rw [ev_dNotV, c3]
  rfl
theorem good_end : GoodE K C := fun p q q2 => ⟨_, by
  show geR K C p q q2 (sE K C p q q2 .un (gK 4 true [e00]) (gK 4 true [e00])) = _
  unfold geR
  rw [then_eq (se0 K C p q q2), then_eq (se1 K C p q q2)]
  exact se2 K C p q q2⟩
end
end K14
set_option Elab.async false
set_option linter.all false
set_option maxRecDepth 100000
set_option maxHeartbeats 4000000
namespace K14
open PySem PySem.Spec L2 Kn Kd
open PyProof.Rows hiding St
theorem all_mk {l : PySem.W.OpenLaw} {w : World} {K : PySem.W.Frag} {h : Heap} {mg : Str → Option Value} {fa C f0 f1 f2 f3 f4 f5 f6 f7 f8 f9 f10 f11 f12 f13 f14 f15 f16 f17 f18 f19 f20 f21 f22 f23 f24 f25 f26 f27 f28 f29 f30 f31 f32 f33 : Addr} (X : K.In h) (G : h.Ns mainGlobals mg) (hfa : mg "law" = some (.ref fa))
    {od0 an0 od1 an1 od2 an2 od3 an3 od4 an4 od5 an5 od6 an6 od7 an7 od8 an8 od9 an9 od10 an10 od11 an11 od12 an12 od13 an13 od14 an14 od15 an15 od16 an16 od17 an17 od18 an18 od19 an19 od20 an20 od21 an21 od22 an22 od23 an23 od24 an24 od25 an25 od26 an26 od27 an27 od28 an28 od29 an29 od30 an30 od31 an31 od32 an32 od33 an33 : Option Addr} {sl0 sl1 sl2 sl3 sl4 sl5 sl6 sl7 sl8 sl9 sl10 sl11 sl12 sl13 sl14 sl15 sl16 sl17 sl18 sl19 sl20 sl21 sl22 sl23 sl24 sl25 sl26 sl27 sl28 sl29 sl30 sl31 sl32 sl33 : Array (Option Value)} {oc0 kV0 dc0 pm0 cd0 ct0 oc1 kV1 dc1 pm1 cd1 ct1 oc2 kV2 dc2 pm2 cd2 ct2 oc3 kV3 dc3 pm3 cd3 ct3 oc4 kV4 dc4 pm4 cd4 ct4 oc5 kV5 dc5 pm5 cd5 ct5 oc6 kV6 dc6 pm6 cd6 ct6 oc7 kV7 dc7 pm7 cd7 ct7 oc8 kV8 dc8 pm8 cd8 ct8 oc9 kV9 dc9 pm9 cd9 ct9 oc10 kV10 dc10 pm10 cd10 ct10 oc11 kV11 dc11 pm11 cd11 ct11 oc12 kV12 dc12 pm12 cd12 ct12 oc13 kV13 dc13 pm13 cd13 ct13 oc14 kV14 dc14 pm14 cd14 ct14 oc15 kV15 dc15 pm15 cd15 ct15 oc16 kV16 dc16 pm16 cd16 ct16 oc17 kV17 dc17 pm17 cd17 ct17 oc18 kV18 dc18 pm18 cd18 ct18 oc19 kV19 dc19 pm19 cd19 ct19 oc20 kV20 dc20 pm20 cd20 ct20 oc21 kV21 dc21 pm21 cd21 ct21 oc22 kV22 dc22 pm22 cd22 ct22 oc23 kV23 dc23 pm23 cd23 ct23 oc24 kV24 dc24 pm24 cd24 ct24 oc25 kV25 dc25 pm25 cd25 ct25 oc26 kV26 dc26 pm26 cd26 ct26 oc27 kV27 dc27 pm27 cd27 ct27 oc28 kV28 dc28 pm28 cd28 ct28 oc29 kV29 dc29 pm29 cd29 ct29 oc30 kV30 dc30 pm30 cd30 ct30 oc31 kV31 dc31 pm31 cd31 ct31 oc32 kV32 dc32 pm32 cd32 ct32 oc33 kV33 dc33 pm33 cd33 ct33 : Value}
    (aK : PySem.W.nsIn K mainGlobals "Kept" = some (some (.ref C))) (pg : PySem.W.plainGet K C Str.empty = true) (hd : PySem.W.hasDictIn K C = true) (po : PySem.W.plainOver K C = true) (sa : PySem.W.findIn K (.ref C) "__setattr__" = some (some (.builtin "object.__setattr__")))
    (nR : PySem.W.findIn K (.ref C) "row" = some none) (nP : PySem.W.findIn K (.ref C) "past" = some none) (mk : PySem.W.makesIn K C = true) (kp : PySem.W.keepIn K (.ref C) = true)
    (ha : PySem.W.findIn K (.ref C) "__class__" = some (some (.builtin "object.__class__"))) (hn : PySem.W.specialIn K (.builtin "object.__class__") "__get__" = some (some (.builtin "getset_descriptor.__get__"))) (htk : PySem.W.takesIn K (.builtin "object.__class__") = some true) (hm : PySem.W.mroIn K C (.type "object") = some true) (me : PySem.W.kitOne K (.ref C) (.ref C) = some true)
    (a0 : PySem.W.nsIn K mainGlobals "_law_draws" = some (some (.ref f0))) (l0 : K.lookup f0 = some ⟨oc0, od0, .func (PySem.W.fnOf "_law_draws" "_law_draws" (defArgs st__law_draws) (defBody st__law_draws) (defScope st__law_draws) .none kV0 dc0 pm0 an0 cd0 ct0), sl0⟩) (c0 : PySem.W.codeIn K cd0 "_law_draws" = true) (k0 : PySem.W.keepIn K (.ref f0) = true)
    (a1 : PySem.W.nsIn K mainGlobals "_law_cell_at" = some (some (.ref f1))) (l1 : K.lookup f1 = some ⟨oc1, od1, .func (PySem.W.fnOf "_law_cell_at" "_law_cell_at" (defArgs st__law_cell_at) (defBody st__law_cell_at) (defScope st__law_cell_at) .none kV1 dc1 pm1 an1 cd1 ct1), sl1⟩) (c1 : PySem.W.codeIn K cd1 "_law_cell_at" = true) (k1 : PySem.W.keepIn K (.ref f1) = true)
    (a2 : PySem.W.nsIn K mainGlobals "_law_bag" = some (some (.ref f2))) (l2 : K.lookup f2 = some ⟨oc2, od2, .func (PySem.W.fnOf "_law_bag" "_law_bag" (defArgs st__law_bag) (defBody st__law_bag) (defScope st__law_bag) .none kV2 dc2 pm2 an2 cd2 ct2), sl2⟩) (c2 : PySem.W.codeIn K cd2 "_law_bag" = true) (k2 : PySem.W.keepIn K (.ref f2) = true)
    (a3 : PySem.W.nsIn K mainGlobals "_law_bags" = some (some (.ref f3))) (l3 : K.lookup f3 = some ⟨oc3, od3, .func (PySem.W.fnOf "_law_bags" "_law_bags" (defArgs st__law_bags) (defBody st__law_bags) (defScope st__law_bags) .none kV3 dc3 pm3 an3 cd3 ct3), sl3⟩) (c3 : PySem.W.codeIn K cd3 "_law_bags" = true) (k3 : PySem.W.keepIn K (.ref f3) = true)
    (a4 : PySem.W.nsIn K mainGlobals "_law_take" = some (some (.ref f4))) (l4 : K.lookup f4 = some ⟨oc4, od4, .func (PySem.W.fnOf "_law_take" "_law_take" (defArgs st__law_take) (defBody st__law_take) (defScope st__law_take) .none kV4 dc4 pm4 an4 cd4 ct4), sl4⟩) (c4 : PySem.W.codeIn K cd4 "_law_take" = true) (k4 : PySem.W.keepIn K (.ref f4) = true)
    (a5 : PySem.W.nsIn K mainGlobals "_law_house" = some (some (.ref f5))) (l5 : K.lookup f5 = some ⟨oc5, od5, .func (PySem.W.fnOf "_law_house" "_law_house" (defArgs st__law_house) (defBody st__law_house) (defScope st__law_house) .none kV5 dc5 pm5 an5 cd5 ct5), sl5⟩) (c5 : PySem.W.codeIn K cd5 "_law_house" = true) (k5 : PySem.W.keepIn K (.ref f5) = true)
    (a6 : PySem.W.nsIn K mainGlobals "_law_mixed" = some (some (.ref f6))) (l6 : K.lookup f6 = some ⟨oc6, od6, .func (PySem.W.fnOf "_law_mixed" "_law_mixed" (defArgs st__law_mixed) (defBody st__law_mixed) (defScope st__law_mixed) .none kV6 dc6 pm6 an6 cd6 ct6), sl6⟩) (c6 : PySem.W.codeIn K cd6 "_law_mixed" = true) (k6 : PySem.W.keepIn K (.ref f6) = true)
    (a7 : PySem.W.nsIn K mainGlobals "_law_coming" = some (some (.ref f7))) (l7 : K.lookup f7 = some ⟨oc7, od7, .func (PySem.W.fnOf "_law_coming" "_law_coming" (defArgs st__law_coming) (defBody st__law_coming) (defScope st__law_coming) .none kV7 dc7 pm7 an7 cd7 ct7), sl7⟩) (c7 : PySem.W.codeIn K cd7 "_law_coming" = true) (k7 : PySem.W.keepIn K (.ref f7) = true)
    (m8 : PySem.W.findIn K (.ref C) "stood" = some (some (.ref f8))) (i8 : PySem.W.isFn K (.ref f8) = true) (l8 : K.lookup f8 = some ⟨oc8, od8, .func (PySem.W.fnOf "stood" "Kept.stood" (defArgs st_Kept_stood) (defBody st_Kept_stood) (defScope st_Kept_stood) .none kV8 dc8 pm8 an8 cd8 ct8), sl8⟩) (c8 : PySem.W.codeIn K cd8 "Kept.stood" = true) (k8 : PySem.W.keepIn K (.ref f8) = true)
    (a9 : PySem.W.nsIn K mainGlobals "is_within" = some (some (.ref f9))) (l9 : K.lookup f9 = some ⟨oc9, od9, .func (PySem.W.fnOf "is_within" "is_within" (defArgs st_is_within) (defBody st_is_within) (defScope st_is_within) .none kV9 dc9 pm9 an9 cd9 ct9), sl9⟩) (c9 : PySem.W.codeIn K cd9 "is_within" = true) (k9 : PySem.W.keepIn K (.ref f9) = true)
    (a10 : PySem.W.nsIn K mainGlobals "is_row" = some (some (.ref f10))) (l10 : K.lookup f10 = some ⟨oc10, od10, .func (PySem.W.fnOf "is_row" "is_row" (defArgs st_is_row) (defBody st_is_row) (defScope st_is_row) .none kV10 dc10 pm10 an10 cd10 ct10), sl10⟩) (c10 : PySem.W.codeIn K cd10 "is_row" = true) (k10 : PySem.W.keepIn K (.ref f10) = true)
    (a11 : PySem.W.nsIn K mainGlobals "need_row" = some (some (.ref f11))) (l11 : K.lookup f11 = some ⟨oc11, od11, .func (PySem.W.fnOf "need_row" "need_row" (defArgs st_need_row) (defBody st_need_row) (defScope st_need_row) .none kV11 dc11 pm11 an11 cd11 ct11), sl11⟩) (c11 : PySem.W.codeIn K cd11 "need_row" = true) (k11 : PySem.W.keepIn K (.ref f11) = true)
    (a12 : PySem.W.nsIn K mainGlobals "is_seat" = some (some (.ref f12))) (l12 : K.lookup f12 = some ⟨oc12, od12, .func (PySem.W.fnOf "is_seat" "is_seat" (defArgs st_is_seat) (defBody st_is_seat) (defScope st_is_seat) .none kV12 dc12 pm12 an12 cd12 ct12), sl12⟩) (c12 : PySem.W.codeIn K cd12 "is_seat" = true) (k12 : PySem.W.keepIn K (.ref f12) = true)
    (a13 : PySem.W.nsIn K mainGlobals "are_seats" = some (some (.ref f13))) (l13 : K.lookup f13 = some ⟨oc13, od13, .func (PySem.W.fnOf "are_seats" "are_seats" (defArgs st_are_seats) (defBody st_are_seats) (defScope st_are_seats) .none kV13 dc13 pm13 an13 cd13 ct13), sl13⟩) (c13 : PySem.W.codeIn K cd13 "are_seats" = true) (k13 : PySem.W.keepIn K (.ref f13) = true)
    (a14 : PySem.W.nsIn K mainGlobals "need_order" = some (some (.ref f14))) (l14 : K.lookup f14 = some ⟨oc14, od14, .func (PySem.W.fnOf "need_order" "need_order" (defArgs st_need_order) (defBody st_need_order) (defScope st_need_order) .none kV14 dc14 pm14 an14 cd14 ct14), sl14⟩) (c14 : PySem.W.codeIn K cd14 "need_order" = true) (k14 : PySem.W.keepIn K (.ref f14) = true)
    (a15 : PySem.W.nsIn K mainGlobals "passed" = some (some (.ref f15))) (l15 : K.lookup f15 = some ⟨oc15, od15, .func (PySem.W.fnOf "passed" "passed" (defArgs st_passed) (defBody st_passed) (defScope st_passed) .none kV15 dc15 pm15 an15 cd15 ct15), sl15⟩) (c15 : PySem.W.codeIn K cd15 "passed" = true) (k15 : PySem.W.keepIn K (.ref f15) = true)
    (a16 : PySem.W.nsIn K mainGlobals "leave_numbers" = some (some (.ref f16))) (l16 : K.lookup f16 = some ⟨oc16, od16, .func (PySem.W.fnOf "leave_numbers" "leave_numbers" (defArgs st_leave_numbers) (defBody st_leave_numbers) (defScope st_leave_numbers) .none kV16 dc16 pm16 an16 cd16 ct16), sl16⟩) (c16 : PySem.W.codeIn K cd16 "leave_numbers" = true) (k16 : PySem.W.keepIn K (.ref f16) = true)
    (m17 : PySem.W.findIn K (.ref C) "__init__" = some (some (.ref f17))) (i17 : PySem.W.isFn K (.ref f17) = true) (l17 : K.lookup f17 = some ⟨oc17, od17, .func (PySem.W.fnOf "__init__" "Kept.__init__" (defArgs st_init) (defBody st_init) (defScope st_init) .none kV17 dc17 pm17 an17 cd17 ct17), sl17⟩) (c17 : PySem.W.codeIn K cd17 "Kept.__init__" = true) (k17 : PySem.W.keepIn K (.ref f17) = true)
    (m18 : PySem.W.findIn K (.ref C) "__eq__" = some (some (.ref f18))) (i18 : PySem.W.isFn K (.ref f18) = true) (l18 : K.lookup f18 = some ⟨oc18, od18, .func (PySem.W.fnOf "__eq__" "Kept.__eq__" (defArgs st_eq) (defBody st_eq) (defScope st_eq) .none kV18 dc18 pm18 an18 cd18 ct18), sl18⟩) (c18 : PySem.W.codeIn K cd18 "Kept.__eq__" = true) (k18 : PySem.W.keepIn K (.ref f18) = true)
    (m19 : PySem.W.findIn K (.ref C) "sat" = some (some (.ref f19))) (i19 : PySem.W.isFn K (.ref f19) = true) (l19 : K.lookup f19 = some ⟨oc19, od19, .func (PySem.W.fnOf "sat" "Kept.sat" (defArgs st_Kept_sat) (defBody st_Kept_sat) (defScope st_Kept_sat) .none kV19 dc19 pm19 an19 cd19 ct19), sl19⟩) (c19 : PySem.W.codeIn K cd19 "Kept.sat" = true) (k19 : PySem.W.keepIn K (.ref f19) = true)
    (m20 : PySem.W.findIn K (.ref C) "__len__" = some (some (.ref f20))) (i20 : PySem.W.isFn K (.ref f20) = true) (l20 : K.lookup f20 = some ⟨oc20, od20, .func (PySem.W.fnOf "__len__" "Kept.__len__" (defArgs st_Kept___len__) (defBody st_Kept___len__) (defScope st_Kept___len__) .none kV20 dc20 pm20 an20 cd20 ct20), sl20⟩) (c20 : PySem.W.codeIn K cd20 "Kept.__len__" = true) (k20 : PySem.W.keepIn K (.ref f20) = true)
    (m21 : PySem.W.findIn K (.ref C) "need_seat" = some (some (.ref f21))) (i21 : PySem.W.isFn K (.ref f21) = true) (l21 : K.lookup f21 = some ⟨oc21, od21, .func (PySem.W.fnOf "need_seat" "Kept.need_seat" (defArgs st_Kept_need_seat) (defBody st_Kept_need_seat) (defScope st_Kept_need_seat) .none kV21 dc21 pm21 an21 cd21 ct21), sl21⟩) (c21 : PySem.W.codeIn K cd21 "Kept.need_seat" = true) (k21 : PySem.W.keepIn K (.ref f21) = true)
    (m22 : PySem.W.findIn K (.ref C) "goes" = some (some (.ref f22))) (i22 : PySem.W.isFn K (.ref f22) = true) (l22 : K.lookup f22 = some ⟨oc22, od22, .func (PySem.W.fnOf "goes" "Kept.goes" (defArgs st_Kept_goes) (defBody st_Kept_goes) (defScope st_Kept_goes) .none kV22 dc22 pm22 an22 cd22 ct22), sl22⟩) (c22 : PySem.W.codeIn K cd22 "Kept.goes" = true) (k22 : PySem.W.keepIn K (.ref f22) = true)
    (m23 : PySem.W.findIn K (.ref C) "come" = some (some (.ref f23))) (i23 : PySem.W.isFn K (.ref f23) = true) (l23 : K.lookup f23 = some ⟨oc23, od23, .func (PySem.W.fnOf "come" "Kept.come" (defArgs st_Kept_come) (defBody st_Kept_come) (defScope st_Kept_come) .none kV23 dc23 pm23 an23 cd23 ct23), sl23⟩) (c23 : PySem.W.codeIn K cd23 "Kept.come" = true) (k23 : PySem.W.keepIn K (.ref f23) = true)
    (a24 : PySem.W.nsIn K mainGlobals "all_passed" = some (some (.ref f24))) (l24 : K.lookup f24 = some ⟨oc24, od24, .func (PySem.W.fnOf "all_passed" "all_passed" (defArgs st_all_passed) (defBody st_all_passed) (defScope st_all_passed) .none kV24 dc24 pm24 an24 cd24 ct24), sl24⟩) (c24 : PySem.W.codeIn K cd24 "all_passed" = true) (k24 : PySem.W.keepIn K (.ref f24) = true)
    (a25 : PySem.W.nsIn K mainGlobals "numbers" = some (some (.ref f25))) (l25 : K.lookup f25 = some ⟨oc25, od25, .func (PySem.W.fnOf "numbers" "numbers" (defArgs st_numbers) (defBody st_numbers) (defScope st_numbers) .none kV25 dc25 pm25 an25 cd25 ct25), sl25⟩) (c25 : PySem.W.codeIn K cd25 "numbers" = true) (k25 : PySem.W.keepIn K (.ref f25) = true)
    (a26 : PySem.W.nsIn K mainGlobals "times_of" = some (some (.ref f26))) (l26 : K.lookup f26 = some ⟨oc26, od26, .func (PySem.W.fnOf "times_of" "times_of" (defArgs st_times_of) (defBody st_times_of) (defScope st_times_of) .none kV26 dc26 pm26 an26 cd26 ct26), sl26⟩) (c26 : PySem.W.codeIn K cd26 "times_of" = true) (k26 : PySem.W.keepIn K (.ref f26) = true)
    (a27 : PySem.W.nsIn K mainGlobals "times" = some (some (.ref f27))) (l27 : K.lookup f27 = some ⟨oc27, od27, .func (PySem.W.fnOf "times" "times" (defArgs st_times) (defBody st_times) (defScope st_times) .none kV27 dc27 pm27 an27 cd27 ct27), sl27⟩) (c27 : PySem.W.codeIn K cd27 "times" = true) (k27 : PySem.W.keepIn K (.ref f27) = true)
    (m28 : PySem.W.findIn K (.ref C) "back" = some (some (.ref f28))) (i28 : PySem.W.isFn K (.ref f28) = true) (l28 : K.lookup f28 = some ⟨oc28, od28, .func (PySem.W.fnOf "back" "Kept.back" (defArgs st_Kept_back) (defBody st_Kept_back) (defScope st_Kept_back) .none kV28 dc28 pm28 an28 cd28 ct28), sl28⟩) (c28 : PySem.W.codeIn K cd28 "Kept.back" = true) (k28 : PySem.W.keepIn K (.ref f28) = true)
    (m29 : PySem.W.findIn K (.ref C) "total" = some (some (.ref f29))) (i29 : PySem.W.isFn K (.ref f29) = true) (l29 : K.lookup f29 = some ⟨oc29, od29, .func (PySem.W.fnOf "total" "Kept.total" (defArgs st_Kept_total) (defBody st_Kept_total) (defScope st_Kept_total) .none kV29 dc29 pm29 an29 cd29 ct29), sl29⟩) (c29 : PySem.W.codeIn K cd29 "Kept.total" = true) (k29 : PySem.W.keepIn K (.ref f29) = true)
    (m30 : PySem.W.findIn K (.ref C) "taken" = some (some (.ref f30))) (i30 : PySem.W.isFn K (.ref f30) = true) (l30 : K.lookup f30 = some ⟨oc30, od30, .func (PySem.W.fnOf "taken" "Kept.taken" (defArgs st_Kept_taken) (defBody st_Kept_taken) (defScope st_Kept_taken) .none kV30 dc30 pm30 an30 cd30 ct30), sl30⟩) (c30 : PySem.W.codeIn K cd30 "Kept.taken" = true) (k30 : PySem.W.keepIn K (.ref f30) = true)
    (m31 : PySem.W.findIn K (.ref C) "would" = some (some (.ref f31))) (i31 : PySem.W.isFn K (.ref f31) = true) (l31 : K.lookup f31 = some ⟨oc31, od31, .func (PySem.W.fnOf "would" "Kept.would" (defArgs st_Kept_would) (defBody st_Kept_would) (defScope st_Kept_would) .none kV31 dc31 pm31 an31 cd31 ct31), sl31⟩) (c31 : PySem.W.codeIn K cd31 "Kept.would" = true) (k31 : PySem.W.keepIn K (.ref f31) = true)
    (m32 : PySem.W.findIn K (.ref C) "leave" = some (some (.ref f32))) (i32 : PySem.W.isFn K (.ref f32) = true) (l32 : K.lookup f32 = some ⟨oc32, od32, .func (PySem.W.fnOf "leave" "Kept.leave" (defArgs st_Kept_leave) (defBody st_Kept_leave) (defScope st_Kept_leave) .none kV32 dc32 pm32 an32 cd32 ct32), sl32⟩) (c32 : PySem.W.codeIn K cd32 "Kept.leave" = true) (k32 : PySem.W.keepIn K (.ref f32) = true)
    (a33 : PySem.W.nsIn K mainGlobals "law" = some (some (.ref f33))) (l33 : K.lookup f33 = some ⟨oc33, od33, .func (PySem.W.fnOf "law" "law" (defArgs st_law) (defBody st_law) (defScope st_law) .none kV33 dc33 pm33 an33 cd33 ct33), sl33⟩) (c33 : PySem.W.codeIn K cd33 "law" = true) (k33 : PySem.W.keepIn K (.ref f33) = true)
    (z_len : PySem.W.nsIn K mainGlobals "len" = some none) (z_sum : PySem.W.nsIn K mainGlobals "sum" = some none) (z_sorted : PySem.W.nsIn K mainGlobals "sorted" = some none) (z_all : PySem.W.nsIn K mainGlobals "all" = some none) (z_max : PySem.W.nsIn K mainGlobals "max" = some none) (z_min : PySem.W.nsIn K mainGlobals "min" = some none) (z_int : PySem.W.nsIn K mainGlobals "int" = some none) (z_bool : PySem.W.nsIn K mainGlobals "bool" = some none) (z_str : PySem.W.nsIn K mainGlobals "str" = some none) (z_tuple : PySem.W.nsIn K mainGlobals "tuple" = some none) (z_list : PySem.W.nsIn K mainGlobals "list" = some none) (z_dict : PySem.W.nsIn K mainGlobals "dict" = some none) (z_set : PySem.W.nsIn K mainGlobals "set" = some none) (z_range : PySem.W.nsIn K mainGlobals "range" = some none) (z_enumerate : PySem.W.nsIn K mainGlobals "enumerate" = some none) (z_zip : PySem.W.nsIn K mainGlobals "zip" = some none) (z_isinstance : PySem.W.nsIn K mainGlobals "isinstance" = some none) (z_repr : PySem.W.nsIn K mainGlobals "repr" = some none) :
    ∃ fd : FuncData, (∀ (s : Shared) (v : Value), BindsTo s fd ⟨[v], []⟩ [("script", v)]) ∧ ∀ base : Heap, K.In base → base.Ns mainGlobals mg → FnOk l.prog w K mg base (L2N.CX l.prog w) L_law fa fd ["script"] (spLaw K) := by
  have e := hfa.symm.trans (PySem.W.mg_of X G a33)
  cases e
  have bi : BI mg := ⟨PySem.W.mg_none_of X G z_len, PySem.W.mg_none_of X G z_sum, PySem.W.mg_none_of X G z_sorted, PySem.W.mg_none_of X G z_all, PySem.W.mg_none_of X G z_max, PySem.W.mg_none_of X G z_min, PySem.W.mg_none_of X G z_int, PySem.W.mg_none_of X G z_bool, PySem.W.mg_none_of X G z_str, PySem.W.mg_none_of X G z_tuple, PySem.W.mg_none_of X G z_list, PySem.W.mg_none_of X G z_dict, PySem.W.mg_none_of X G z_set, PySem.W.mg_none_of X G z_range, PySem.W.mg_none_of X G z_enumerate, PySem.W.mg_none_of X G z_zip, PySem.W.mg_none_of X G z_isinstance, PySem.W.mg_none_of X G z_repr⟩
  have cls : Cls K C := ⟨pg, hd, po, sa⟩
  have kc : KC K C := ⟨cls, nR, nP⟩
  have ic : C8.InsC K C := ⟨cls, ha, hn, htk, hm, me⟩
  have gmK := PySem.W.mg_of X G aK
  have F0 := fun_mk (st := st__law_draws) l0 c0 k0
  have F1 := fun_mk (st := st__law_cell_at) l1 c1 k1
  have F2 := fun_mk (st := st__law_bag) l2 c2 k2
  have F3 := fun_mk (st := st__law_bags) l3 c3 k3
  have F4 := fun_mk (st := st__law_take) l4 c4 k4
  have F5 := fun_mk (st := st__law_house) l5 c5 k5
  have F6 := fun_mk (st := st__law_mixed) l6 c6 k6
  have F7 := fun_mk (st := st__law_coming) l7 c7 k7
  have F8 := fun_mk (st := st_Kept_stood) l8 c8 k8
  have F9 := fun_mk (st := st_is_within) l9 c9 k9
  have F10 := fun_mk (st := st_is_row) l10 c10 k10
  have F11 := fun_mk (st := st_need_row) l11 c11 k11
  have F12 := fun_mk (st := st_is_seat) l12 c12 k12
  have F13 := fun_mk (st := st_are_seats) l13 c13 k13
  have F14 := fun_mk (st := st_need_order) l14 c14 k14
  have F15 := fun_mk (st := st_passed) l15 c15 k15
  have F16 := fun_mk (st := st_leave_numbers) l16 c16 k16
  have F17 := fun_mk (st := st_init) l17 c17 k17
  have F18 := fun_mk (st := st_eq) l18 c18 k18
  have F19 := fun_mk (st := st_Kept_sat) l19 c19 k19
  have F20 := fun_mk (st := st_Kept___len__) l20 c20 k20
  have F21 := fun_mk (st := st_Kept_need_seat) l21 c21 k21
  have F22 := fun_mk (st := st_Kept_goes) l22 c22 k22
  have F23 := fun_mk (st := st_Kept_come) l23 c23 k23
  have F24 := fun_mk (st := st_all_passed) l24 c24 k24
  have F25 := fun_mk (st := st_numbers) l25 c25 k25
  have F26 := fun_mk (st := st_times_of) l26 c26 k26
  have F27 := fun_mk (st := st_times) l27 c27 k27
  have F28 := fun_mk (st := st_Kept_back) l28 c28 k28
  have F29 := fun_mk (st := st_Kept_total) l29 c29 k29
  have F30 := fun_mk (st := st_Kept_taken) l30 c30 k30
  have F31 := fun_mk (st := st_Kept_would) l31 c31 k31
  have F32 := fun_mk (st := st_Kept_leave) l32 c32 k32
  have F33 := fun_mk (st := st_law) l33 c33 k33
  refine ⟨PySem.W.fnOf "law" "law" (defArgs st_law) (defBody st_law) (defScope st_law) .none kV33 dc33 pm33 an33 cd33 ct33, fun s v => .of_eq rfl, fun base _ _ => ?_⟩
  have c__law_draws := cal__law_draws (P := l.prog) (w := w) (base := base) bi F0 (PySem.W.mg_of X G a0) 
  have c__law_cell_at := cal__law_cell_at (P := l.prog) (w := w) (base := base) bi F1 (PySem.W.mg_of X G a1) 
  have c__law_bag := cal__law_bag (P := l.prog) (w := w) (base := base) bi F2 (PySem.W.mg_of X G a2) c__law_draws c__law_cell_at
  have c__law_bags := cal__law_bags (P := l.prog) (w := w) (base := base) bi F3 (PySem.W.mg_of X G a3) c__law_bag (hit_bags K)
  have c__law_take := cal__law_take (P := l.prog) (w := w) (base := base) bi F4 (PySem.W.mg_of X G a4) 
  have c__law_house := cal__law_house (P := l.prog) (w := w) (base := base) bi F5 (PySem.W.mg_of X G a5) c__law_take
  have c__law_mixed := cal__law_mixed (P := l.prog) (w := w) (base := base) bi F6 (PySem.W.mg_of X G a6) c__law_take
  have c__law_coming := cal__law_coming (P := l.prog) (w := w) (base := base) bi F7 (PySem.W.mg_of X G a7) c__law_mixed c__law_take
  have c_Kept_stood := cal_Kept_stood (P := l.prog) (w := w) (base := base) bi kc F8 ⟨m8, i8, k8⟩ 
  have c_is_within := cal_is_within (P := l.prog) (w := w) (base := base) bi F9 (PySem.W.mg_of X G a9) 
  have c_is_row := cal_is_row (P := l.prog) (w := w) (base := base) bi F10 (PySem.W.mg_of X G a10) c_is_within
  have c_need_row := cal_need_row (P := l.prog) (w := w) (base := base) bi F11 (PySem.W.mg_of X G a11) c_is_row
  have c_is_seat := cal_is_seat (P := l.prog) (w := w) (base := base) bi F12 (PySem.W.mg_of X G a12) c_is_within
  have c_are_seats := cal_are_seats (P := l.prog) (w := w) (base := base) bi F13 (PySem.W.mg_of X G a13) c_is_seat
  have c_need_order := cal_need_order (P := l.prog) (w := w) (base := base) bi F14 (PySem.W.mg_of X G a14) c_need_row c_are_seats
  have c_passed := cal_passed (P := l.prog) (w := w) (base := base) bi F15 (PySem.W.mg_of X G a15) 
  have c_leave_numbers := cal_leave_numbers (P := l.prog) (w := w) (base := base) bi F16 (PySem.W.mg_of X G a16) c_need_order c_are_seats c_passed
  have cnew : CalNew C okRow l.prog w K mg base "Kept" 4 := ⟨_, _, _, cal_init (P := l.prog) (w := w) (base := base) kc F17 c_need_row, ⟨mk, m17, i17, kp⟩, F17.binds (fun _ _ _ _ _ _ us hl => match us, hl with | [_, _], _ => rfl), gmK⟩
  have ceq := cal_eq (P := l.prog) (w := w) (base := base) bi kc ic gmK F18 m18 i18
  have c_Kept_sat := cal_Kept_sat (P := l.prog) (w := w) (base := base) bi kc F19 ⟨m19, i19, k19⟩ 
  have c_Kept___len__ := cal_Kept___len__ (P := l.prog) (w := w) (base := base) bi kc F20 ⟨m20, i20, k20⟩ c_Kept_sat
  have c_Kept_need_seat := cal_Kept_need_seat (P := l.prog) (w := w) (base := base) bi kc F21 ⟨m21, i21, k21⟩ c_is_seat
  have c_Kept_goes := cal_Kept_goes (P := l.prog) (w := w) (base := base) bi kc F22 ⟨m22, i22, k22⟩ c_passed c_Kept_sat
  have c_Kept_come := cal_Kept_come (P := l.prog) (w := w) (base := base) bi kc F23 ⟨m23, i23, k23⟩ c_Kept_need_seat c_Kept_sat c_Kept_goes
  have c_all_passed := cal_all_passed (P := l.prog) (w := w) (base := base) bi F24 (PySem.W.mg_of X G a24) c_passed
  have c_numbers := cal_numbers (P := l.prog) (w := w) (base := base) bi F25 (PySem.W.mg_of X G a25) c_need_order c_all_passed
  have c_times_of := cal_times_of (P := l.prog) (w := w) (base := base) bi F26 (PySem.W.mg_of X G a26) c_all_passed
  have c_times := cal_times (P := l.prog) (w := w) (base := base) bi F27 (PySem.W.mg_of X G a27) c_need_order c_times_of
  have c_Kept_back := cal_Kept_back (P := l.prog) (w := w) (base := base) bi kc F28 ⟨m28, i28, k28⟩ 
  have c_Kept_total := cal_Kept_total (P := l.prog) (w := w) (base := base) bi kc F29 ⟨m29, i29, k29⟩ 
  have c_Kept_taken := cal_Kept_taken (P := l.prog) (w := w) (base := base) bi kc F30 ⟨m30, i30, k30⟩ c_Kept_sat
  have c_Kept_would := cal_Kept_would (P := l.prog) (w := w) (base := base) bi kc F31 ⟨m31, i31, k31⟩ c_Kept_need_seat c_Kept_sat c_passed
  have c_Kept_leave := cal_Kept_leave (P := l.prog) (w := w) (base := base) bi kc F32 ⟨m32, i32, k32⟩ c_Kept_need_seat c_Kept_sat c_Kept_goes
  exact ok_law bi kc ceq cnew F33 c__law_house c__law_coming c_numbers c_Kept_would c_Kept_come c_Kept_stood c_times c_Kept_total c_Kept_taken c__law_take c_Kept_leave c_Kept_back c__law_mixed c_leave_numbers c_Kept___len__ c__law_bags (good_law C) (good_end K C)
end K14
set_option Elab.async false
set_option linter.all false
set_option maxRecDepth 100000
open PySem PySem.W PyProof.Rows
set_option maxHeartbeats 0 in
theorem PySem.Challenge.cw_kneesaside_k14_whole_rows_kept_and_order_holds : PySem.Challenge.rw_kneesaside_k14_whole_rows_kept_and_order.Holds := by
  w_on; o_law; k_head; (case hw => w_witness2)
  k_fill
  refine L2.walk_of (l := PySem.Challenge.rw_kneesaside_k14_whole_rows_kept_and_order) (n := 63) (k := K14.L_law) (x := "script") (CX := fun w => L2N.CX PySem.Challenge.pw_kneesaside_k14_whole_rows_kept_and_order w) (sp := fun w => Kn.spLaw _) rfl (by decide) rfl ⟨rfl, by decide, by decide⟩ (fun w h Y => PySem.W.kIn_of Y) ?F (fun _ _ a ns hl _ hS => ⟨(a, ns), rfl, hS, hl, fun _ => rfl⟩) (fun _ _ _ _ _ h => by obtain ⟨_, _, _, _, _, _, _, _, _, _, _, _, z⟩ := h; exact z.elim)
  case F =>
    intro w mg fa h KX G hmg
    refine' K14.all_mk KX G hmg ?aK ?pg ?hd ?po ?sa ?nR ?nP ?mk ?kp ?ha ?hn ?htk ?hm ?me
      ?a0 ?l0 ?c0 ?k0 ?a1 ?l1 ?c1 ?k1 ?a2 ?l2 ?c2 ?k2 ?a3 ?l3 ?c3 ?k3 ?a4 ?l4 ?c4 ?k4 ?a5 ?l5 ?c5 ?k5 ?a6 ?l6 ?c6 ?k6 ?a7 ?l7 ?c7 ?k7 ?m8 ?i8 ?l8 ?c8 ?k8 ?a9 ?l9 ?c9 ?k9 ?a10 ?l10 ?c10 ?k10 ?a11 ?l11 ?c11 ?k11 ?a12 ?l12 ?c12 ?k12 ?a13 ?l13 ?c13 ?k13 ?a14 ?l14 ?c14 ?k14 ?a15 ?l15 ?c15 ?k15 ?a16 ?l16 ?c16 ?k16 ?m17 ?i17 ?l17 ?c17 ?k17 ?m18 ?i18 ?l18 ?c18 ?k18 ?m19 ?i19 ?l19 ?c19 ?k19 ?m20 ?i20 ?l20 ?c20 ?k20 ?m21 ?i21 ?l21 ?c21 ?k21 ?m22 ?i22 ?l22 ?c22 ?k22 ?m23 ?i23 ?l23 ?c23 ?k23 ?a24 ?l24 ?c24 ?k24 ?a25 ?l25 ?c25 ?k25 ?a26 ?l26 ?c26 ?k26 ?a27 ?l27 ?c27 ?k27 ?m28 ?i28 ?l28 ?c28 ?k28 ?m29 ?i29 ?l29 ?c29 ?k29 ?m30 ?i30 ?l30 ?c30 ?k30 ?m31 ?i31 ?l31 ?c31 ?k31 ?m32 ?i32 ?l32 ?c32 ?k32 ?a33 ?l33 ?c33 ?k33
      ?z_len ?z_sum ?z_sorted ?z_all ?z_max ?z_min ?z_int ?z_bool ?z_str ?z_tuple ?z_list ?z_dict ?z_set ?z_range ?z_enumerate ?z_zip ?z_isinstance ?z_repr
    (case aK => k_is)
    (case pg => k_is)
    (case hd => k_is)
    (case po => k_is)
    (case sa => k_is)
    (case nR => k_is)
    (case nP => k_is)
    (case mk => k_is)
    (case kp => k_is)
    (case ha => k_is)
    (case hn => k_is)
    (case htk => k_is)
    (case hm => k_is)
    (case me => kernel_rfl)
    (case a0 => k_is); (case l0 => k_is); (case c0 => k_is); (case k0 => k_is)
    (case a1 => k_is); (case l1 => k_is); (case c1 => k_is); (case k1 => k_is)
    (case a2 => k_is); (case l2 => k_is); (case c2 => k_is); (case k2 => k_is)
    (case a3 => k_is); (case l3 => k_is); (case c3 => k_is); (case k3 => k_is)
    (case a4 => k_is); (case l4 => k_is); (case c4 => k_is); (case k4 => k_is)
    (case a5 => k_is); (case l5 => k_is); (case c5 => k_is); (case k5 => k_is)
    (case a6 => k_is); (case l6 => k_is); (case c6 => k_is); (case k6 => k_is)
    (case a7 => k_is); (case l7 => k_is); (case c7 => k_is); (case k7 => k_is)
    (case m8 => k_is); (case i8 => k_is); (case l8 => k_is); (case c8 => k_is); (case k8 => k_is)
    (case a9 => k_is); (case l9 => k_is); (case c9 => k_is); (case k9 => k_is)
    (case a10 => k_is); (case l10 => k_is); (case c10 => k_is); (case k10 => k_is)
    (case a11 => k_is); (case l11 => k_is); (case c11 => k_is); (case k11 => k_is)
    (case a12 => k_is); (case l12 => k_is); (case c12 => k_is); (case k12 => k_is)
    (case a13 => k_is); (case l13 => k_is); (case c13 => k_is); (case k13 => k_is)
    (case a14 => k_is); (case l14 => k_is); (case c14 => k_is); (case k14 => k_is)
    (case a15 => k_is); (case l15 => k_is); (case c15 => k_is); (case k15 => k_is)
    (case a16 => k_is); (case l16 => k_is); (case c16 => k_is); (case k16 => k_is)
    (case m17 => k_is); (case i17 => k_is); (case l17 => k_is); (case c17 => k_is); (case k17 => k_is)
    (case m18 => k_is); (case i18 => k_is); (case l18 => k_is); (case c18 => k_is); (case k18 => k_is)
    (case m19 => k_is); (case i19 => k_is); (case l19 => k_is); (case c19 => k_is); (case k19 => k_is)
    (case m20 => k_is); (case i20 => k_is); (case l20 => k_is); (case c20 => k_is); (case k20 => k_is)
    (case m21 => k_is); (case i21 => k_is); (case l21 => k_is); (case c21 => k_is); (case k21 => k_is)
    (case m22 => k_is); (case i22 => k_is); (case l22 => k_is); (case c22 => k_is); (case k22 => k_is)
    (case m23 => k_is); (case i23 => k_is); (case l23 => k_is); (case c23 => k_is); (case k23 => k_is)
    (case a24 => k_is); (case l24 => k_is); (case c24 => k_is); (case k24 => k_is)
    (case a25 => k_is); (case l25 => k_is); (case c25 => k_is); (case k25 => k_is)
    (case a26 => k_is); (case l26 => k_is); (case c26 => k_is); (case k26 => k_is)
    (case a27 => k_is); (case l27 => k_is); (case c27 => k_is); (case k27 => k_is)
    (case m28 => k_is); (case i28 => k_is); (case l28 => k_is); (case c28 => k_is); (case k28 => k_is)
    (case m29 => k_is); (case i29 => k_is); (case l29 => k_is); (case c29 => k_is); (case k29 => k_is)
    (case m30 => k_is); (case i30 => k_is); (case l30 => k_is); (case c30 => k_is); (case k30 => k_is)
    (case m31 => k_is); (case i31 => k_is); (case l31 => k_is); (case c31 => k_is); (case k31 => k_is)
    (case m32 => k_is); (case i32 => k_is); (case l32 => k_is); (case c32 => k_is); (case k32 => k_is)
    (case a33 => k_is); (case l33 => k_is); (case c33 => k_is); (case k33 => k_is)
    (case z_len => k_is)
    (case z_sum => k_is)
    (case z_sorted => k_is)
    (case z_all => k_is)
    (case z_max => k_is)
    (case z_min => k_is)
    (case z_int => k_is)
    (case z_bool => k_is)
    (case z_str => k_is)
    (case z_tuple => k_is)
    (case z_list => k_is)
    (case z_dict => k_is)
    (case z_set => k_is)
    (case z_range => k_is)
    (case z_enumerate => k_is)
    (case z_zip => k_is)
    (case z_isinstance => k_is)
    (case z_repr => k_is)
