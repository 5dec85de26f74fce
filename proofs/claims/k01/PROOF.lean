import PyProof.Rows.All
import HandS.Call
import HandS.List
import HandS.Strs
import HandS.Conv
import HandS.Star
import HandS.SortInts
import HandS.Iter
import HandS.Walk
import HandS.Zip
import PyProof.Draws
import PyProof.EnumMake
import Wide.All
import OpenK.AllK
import Wide.FinOn
import HandS.ForMost
import HandS.ForExc
import HandS.IsInst
import HandS.Style
import HandS.Deep
import HandS.Dict
import HandS.Defaults
import HandS.Flow
import HandS.Wide
import HandS.WordsExc
import HandS.HeadEnd
import HandS.Head0
import HandS.Head1
import HandS.Head2
import HandS.HeadHook1
import HandS.HeadHook2
import PySem.Challenge.RW_paidlater_k01_stores_known
set_option Elab.async false
set_option linter.all false
set_option maxRecDepth 100000
set_option maxHeartbeats 0
/-! calls of the library's kind that the layer lacks: index of a tuple, of either; sorted of a tuple -/
namespace Q
open PySem L2 PySem.Spec PyProof.Rows
section
variable {X : Cx}
def rIdx (S : Hp → Addr → List V → Prop) : V → List V → Hp → VK → Prop := fun x xs H Q => ∃ (p : Addr) (zs : List V) (y z : V) (j : Nat), x = .ref p ∧ xs = [y] ∧ S H p zs ∧ flatV y = true ∧ zs.all flatV = true ∧ zs[j]? = some z ∧ eqV z y = true ∧
  (∀ (m : Nat) (z' : V), m < j → zs[m]? = some z' → eqV z' y = false) ∧ Q (.int (j : Nat)) H
theorem mt_idxL : MtR X "list.index" (rIdx fun H => SqL X.K H) := by
  intro pins s σ H x xs v us Q I rx rxs h
  obtain ⟨p, zs, y, z, j, h1, h2, h3, h4, h5, h6, h7, h8, q⟩ := h
  exact mt_index pins s σ H x xs v us Q I rx rxs ⟨p, zs, y, j, z, h1, h2, h3, h4, h5, h6, h7, h8, q⟩
theorem mt_idxT : MtR X "tuple.index" (rIdx fun H => SqT X.K H) := by
  intro pins s σ H x xs v us Q I rx rxs h
  obtain ⟨p, zs, y, z, j, rfl, rfl, hs, fy, fz, hz, hzj, hno, q⟩ := h
  cases rx
  obtain ⟨w0, rfl, ry⟩ := vals1 rxs
  obtain ⟨its, rv, pl, hlen⟩ := I.tuple hs
  obtain ⟨⟨cls, dd, dt, sl⟩, ho, hc, n, hd⟩ := pl
  simp only at hc hd
  subst hc hd
  obtain ⟨u, hu, ru⟩ := rv.get hz
  obtain ⟨g1, g2⟩ := List.getElem?_eq_some_iff.mp hu
  have hvl := rv.length
  have hj : j < its.toArray.size := by simpa using g1
  refine call_meets PySem.F.slot_tuple_index ⟨_, ho, rfl⟩ PySem.F.entry_tuple_index (PySem.F.args_tuple_index_2 _ _)
    (TI.tuple_indexAt p its.toArray n dd sl w0 (eqU y) j hj ?_ ?_) ⟨ho, fun w1 h1 => mem_eqAt ry fy rv fz w1 (by simpa using h1), ⟨.int (j : Nat), H, I.tok _, ⟨_, rfl⟩, q⟩⟩
  · rw [show its.toArray[j] = u by simpa using g2, eqU_of ru (flat_at fz hz), hzj]
  · intro m hm hmj
    have k1 : m < its.length := by simpa using hm
    have k2 : zs[m]? = some (zs[m]'(by omega)) := List.getElem?_eq_getElem (by omega)
    obtain ⟨u2, hu2, ru2⟩ := rv.get k2
    obtain ⟨_, g4⟩ := List.getElem?_eq_some_iff.mp hu2
    rw [show its.toArray[m] = u2 by simpa using g4, eqU_of ru2 (flat_at fz k2), hno m _ hmj k2]
/-- o.m(e), the type of o known when it is there -/
def tBMU (X : Cx) (nm : Str) (to : TE) (t : TA) : TE := fun σ H Q => to σ H fun x H1 => ∃ (T id : String) (r : V → List V → Hp → VK → Prop), (PlainAttrs T ∧ Slot T nm id ∧ typeOf (.builtin id) = pure (.type "method_descriptor")) ∧ MtR X id r ∧
  (∀ pins s v, Inv X pins σ H1 s → RelV x v → s.TypeIs v T ∧ ∀ a, v = .ref a → ∃ ob, s.heap.get? a = some ob ∧ ob.dict = none) ∧ t σ H1 fun xs H2 => r x xs H2 Q
theorem pe_bmU {o e : Expr} {to : TE} {t : TA} {nm : Str} {apos cpos : Pos} (ho : PE X o to) (ha : PA X [e] t) (hb : attributeBase o nm X.env (eval o X.env) = eval o X.env)
    (hf : ((backTo cpos (starEach [e] X.env)).all (fun x => !x.1) && (backToKw cpos (keywordEach [] X.env)).all (fun x => x.1.isSome) && decide ([e].length + ([] : List Keyword).length + (if ([] : List Keyword).isEmpty then 0 else 1) < 30)) = true)
    (hl : (apos.endLine == cpos.line) = true) (hs : starEach [e] X.env = (false, eval e X.env) :: starEach [] X.env) : PE X (.Call (.Attribute o nm apos) [e] [] cpos) (tBMU X nm to t) := by
  refine ⟨fun pins s σ H Q I h => wpAny_Call_method_late hb hf hl rfl (thn (ho.run pins s σ H _ I h) fun v s1 k => ?_)⟩
  obtain ⟨x, H1, I1, r1, T, id, r, ⟨pa, slot, hty⟩, hm, ty, q1⟩ := k
  obtain ⟨h1, h2⟩ := ty pins s1 v I1 r1
  refine ⟨T, id, pa, slot, hty, h1, h2, ?_⟩
  have hA := ha.run cpos pins s1 σ H1 _ I1 q1
  rw [hs] at hA ⊢
  refine Calls.callWith_builtin rfl (Calls.evalArgs_plain (thn hA fun us s2 k2 => ?_))
  obtain ⟨ys, H2, I2, r2, q2⟩ := k2
  exact hm pins s2 σ H2 x ys v us Q I2 r1 r2 q2
end
end Q
namespace Q
open PySem PySem.Spec PyProof.Rows SrtO
section
variable {prog : Program} {w : World} {A : Around} {E : Value → Shared → Prop} {s : Shared}
theorem collect_tup {l : Addr} {vs : List Value} {dd : Option Addr} {n : Nat} {sl : Array (Option Value)} {Q : List Value → Shared → Prop} (ho : s.heap.get? l = some { cls := .type "tuple", dict := dd, data := .seq vs.toArray n, slots := sl })
    (h : Q vs { s with heap := (s.heap.push (seqObj "list" #[] 0)).update s.heap.objs.size (Obj.mapSeq (· ++ vs.toArray)) }) (hz : vs.length ≤ sizeLine) :
    wpAny (model prog w) A (collect (.ref l)) Q E s := by
  unfold collect
  refine wpAny_bind (wpAny_runValue (codeAny_builtin entry_proto_collect' ?_))
  show wpAny _ _ (do again (.builtin "list.__iadd__" ⟨[← newList [], .ref l], []⟩)) _ _ s
  refine wpAny_bind (wpAny_newList (wpAny_pure ⟨Code.quiet_builtin _ (by decide +kernel), codeAny_builtin entry_list_iadd' ?_⟩))
  show wpAny _ _ (Builtin.List.listExtendWith (.ref s.heap.objs.size) (.ref l) (.ref s.heap.objs.size)) _ _ { s with heap := s.heap.push (seqObj "list" #[] 0) }
  unfold Builtin.List.listExtendWith
  have h1 := Heap.get?_push_of_some (seqObj "list" #[] 0) ho
  refine wpAny_bind (wpAny_typeOf (T := "tuple") ⟨_, h1, rfl⟩ ?_)
  rw [if_pos (by rw [show (Value.type "tuple" == Value.type "tuple") = true by rfl]; simp)]
  refine wpAny_bind (listItems_at h1 rfl ?_)
  refine wpAny_bind (listItems_at (xs := #[]) (n := 0) (Heap.get?_push_size _ rfl) rfl ?_)
  rw [if_neg (by simp)]
  refine wpAny_bind (listUpdate_at (xs := #[]) (n := 0) (Heap.get?_push_size _ rfl) rfl ?_ (Nat.zero_le _) (by show (#[] ++ vs.toArray).size ≤ sizeLine + 1; simp only [Array.size_append, List.size_toArray, List.length_nil]; omega))
  refine wpAny_pure ?_
  show wpAny (model prog w) A (do
      let o ← load s.heap.objs.size
      match o.data with
      | .seq xs _ => pure xs.toList
      | _ => unsupported "internal:collect") Q E { s with heap := (s.heap.push (seqObj "list" #[] 0)).update s.heap.objs.size (Obj.mapSeq (· ++ vs.toArray)) }
  refine wpAny_bind (wpAny_load (get?_update_seq (Heap.get?_push_size _ rfl) _) ?_)
  show wpAny _ _ (pure ((#[] : Array Value) ++ vs.toArray).toList) Q E _
  rw [show ((#[] : Array Value) ++ vs.toArray).toList = vs by simp]
  exact wpAny_pure h
theorem sorted_tup {l : Addr} {vs : List Value} {dd : Option Addr} {n : Nat} {sl : Array (Option Value)} {ltv : Value → Value → Bool} {Q : Value → Shared → Prop} (O : Swo ltv) (ho : s.heap.get? l = some { cls := .type "tuple", dict := dd, data := .seq vs.toArray n, slots := sl }) (hz : vs.length ≤ sizeLine)
    (hS : 2 ≤ vs.length → ∀ (h₁ : Heap) (a : Addr), h₁.get? a = some (seqObj "list" vs.toArray 0) → (∀ b o, s.heap.get? b = some o → b ≠ a ∧ h₁.get? b = some o) → SortableO prog w A.in1.in1 { s with heap := h₁ } a vs ltv)
    (h : ∀ out : List Value, Srtd ltv out → Stb ltv out vs → Q (.ref (s.heap.objs.size + 1)) { s with heap := sortedAll s.heap vs out.toArray }) :
    wpAny (model prog w) A (call (.builtin "sorted") [.ref l]) Q E s := by
  refine Calls.call_function_entry kind_sorted plain_sorted entry_sorted (args_sorted1 _) ?_
  unfold Builtin.«sorted»
  refine wpAny_bind (m := checkCount "sorted" 1 1 _) (wpAny_pure (wpAny_bind (collect_tup ho (wpAny_bind (wpAny_newList ?_ hz)) hz)))
  have e0 : ((s.heap.push (seqObj "list" #[] 0)).update s.heap.objs.size (Obj.mapSeq (· ++ vs.toArray))).objs.size = s.heap.objs.size + 1 := by
    rw [Heap.size_update, size_push']
  have e1 : (((s.heap.push (seqObj "list" #[] 0)).update s.heap.objs.size (Obj.mapSeq (· ++ vs.toArray))).push (seqObj "list" vs.toArray 0)).get? (s.heap.objs.size + 1) = some (seqObj "list" vs.toArray 0) := by
    rw [← e0]; exact Heap.get?_push_size _ rfl
  have e2 : ∀ b o, s.heap.get? b = some o → b ≠ s.heap.objs.size + 1 ∧ (((s.heap.push (seqObj "list" #[] 0)).update s.heap.objs.size (Obj.mapSeq (· ++ vs.toArray))).push (seqObj "list" vs.toArray 0)).get? b = some o := fun b o q => by
    have lt := Heap.lt_size q
    refine ⟨Nat.ne_of_lt (Nat.lt_succ_of_lt lt), Heap.get?_push_of_some _ ?_⟩
    rw [Heap.get?_update_ne _ _ _ _ (Nat.ne_of_lt lt)]
    exact Heap.get?_push_of_some _ q
  show wpAny _ _ _ _ _ { s with heap := ((s.heap.push (seqObj "list" #[] 0)).update s.heap.objs.size (Obj.mapSeq (· ++ vs.toArray))).push (seqObj "list" vs.toArray 0) }
  rw [e0]
  exact wpAny_bind (wpAny_holding (wpAny_call_entry slot_list_sort ⟨_, e1, rfl⟩ entry_list_sort (list_sort_ord O e1 hz (fun h2 => hS h2 _ _ e1 e2) fun out hs hb => ⟨_, rfl, wpAny_pure ⟨_, rfl, h out hs hb⟩⟩) (args_list_sort _)))
end
open L2
/-- sorted of a list or tuple of ints -/
def rSrt (K : PySem.W.Frag) : List V → Hp → VK → Prop := fun vs H Q => ∃ (a : Addr) (ns : List Int), vs = [V.ref a] ∧ (SqL K H a (ns.map V.int) ∨ SqT K H a (ns.map V.int)) ∧
  ∀ (ns' : List Int) (p : Addr), ns'.Perm ns → ns'.Pairwise (· ≤ ·) → H p = none → Q (.ref p) (upd H p (.lst (ns'.map V.int)))
theorem cr_srt {X : Cx} : CallR X (.builtin "sorted") (rSrt X.K) := by
  intro pins s σ H vs us Q I r h
  obtain ⟨a, ns, rfl, hs | hs, q⟩ := h
  · exact cr_sortedI pins s σ H _ us Q I r ⟨a, ns, rfl, hs, q⟩
  · obtain ⟨its, rv, pl, hz⟩ := I.tuple hs
    obtain ⟨⟨cls, dd, dt, sl⟩, ho, hc, n, hd⟩ := pl
    simp only at hc hd
    subst hc hd
    rw [Vals.ref1 r]
    have hi := rv.ints
    refine sorted_tup swo_int ho (by rw [← rv.length]; exact hz) (fun h2 h₁ a' _ _ => ints_sortable hi h2) fun out h1 h2 => ?_
    obtain ⟨k1, k2, k3⟩ := ints_out hi h1 h2
    obtain ⟨ep, he'⟩ := PyProof.Rows.sortedAll_at s.heap its out.toArray
    have hlen : ((out.map iv).map V.int).length ≤ sizeLine := by
      rw [List.length_map, k2.length_eq]
      rw [List.length_map] at hz
      exact hz
    exact ⟨.ref _, upd H (s.heap.objs.size + 1) (.lst ((out.map iv).map V.int)), I.laid (t' := s.toks) (fun _ _ => PyProof.Rows.sortedAll_old) (Nat.le_succ _) ⟨hlen, out, ep, vals_of_ints k1, he'⟩, rfl, q _ _ k2 k3 (I.hok.fresh (Nat.le_succ _))⟩
end Q
namespace Q
open PySem L2 PySem.Spec PyProof.Rows
section
variable {X : Cx}
/-! tuples made, with what is known of the object: it has no dict of its own -/
def tTupD (t : TA) : TE := fun σ H Q => t σ H fun xs H1 => xs.length ≤ sizeLine ∧ ∀ (p : Addr) (ob : Obj), H1 p = none → ob.dict = none → Q (.ref p) (upd H1 p (.frz ob (.tup xs)))
theorem pe_tupD {es : List Expr} {t : TA} {pos : Pos} {x1} (h : PA X es t) : PE X (.Tuple es x1 pos) (tTupD t) := by
  refine ⟨fun pins s σ H Q I hq => wpAny_Tuple_spliced (thn (h.run pos pins s σ H _ I hq) fun us s1 k => ?_)⟩
  obtain ⟨xs, H1, I1, r, z, q⟩ := k
  refine ⟨by rw [← r.length]; exact z, ?_⟩
  have g := Heap.get?_push_size s1.heap (o := seqObj "tuple" us.toArray 0) rfl
  exact ⟨.ref s1.heap.objs.size, upd H1 s1.heap.objs.size (.frz (seqObj "tuple" us.toArray 0) (.tup xs)), I1.laid (t' := s1.toks) (fun b u e => Heap.get?_push_of_some _ e) (Nat.le_refl _) ⟨g, z, us, r, ⟨_, g, rfl, _, rfl⟩⟩, rfl, q _ _ (I1.hok.fresh (Nat.le_refl _)) rfl⟩
theorem call_tuple_D : CallR X (.type "tuple") (fun xs H Q => ∃ p ys, xs = [.ref p] ∧ ((SqL X.K H p ys ∧ ∀ (l : Addr) (ob : Obj), H l = none → ob.dict = none → Q (.ref l) (upd H l (.frz ob (.tup ys)))) ∨ (SqT X.K H p ys ∧ Q (.ref p) H))) := by
  intro pins s σ H xs us Q I r h
  obtain ⟨p, ys, rfl, h⟩ := h
  obtain ⟨u, rfl, rx⟩ := vals1 r
  cases rx
  rcases h with ⟨hq, q⟩ | ⟨hq, q⟩
  · obtain ⟨its, rv, pl, hz⟩ := I.list hq
    have hlen := rv.length
    refine call_tuple_list pl.isList (fun h' kp => ?_) (by simp only [List.size_toArray] <;> omega)
    have I1 : Inv X pins σ H { s with heap := h' } := I.kept (t' := s.toks) kp
    have g := Heap.get?_push_size h' (o := { cls := .type "tuple", data := .seq its.toArray }) rfl
    exact ⟨.ref h'.objs.size, upd H h'.objs.size (.frz { cls := .type "tuple", data := .seq its.toArray } (.tup ys)), I1.laid (t' := s.toks) (fun b o e => Heap.get?_push_of_some _ e) (Nat.le_refl _) ⟨g, hz, its, rv, ⟨_, g, rfl, _, rfl⟩⟩, rfl, q _ _ (I1.hok.fresh (Nat.le_refl _)) rfl⟩
  · obtain ⟨its, rv, pl, _⟩ := I.tuple hq
    exact call_tuple_same pl ⟨.ref p, H, I, rfl, q⟩
end
end Q
namespace Q
open PySem L2 PySem.Spec PyProof.Rows
section
variable {X : Cx}
def rSlD (K : PySem.W.Frag) : V → Option Int → Option Int → Hp → VK → Prop := fun x lo hi H Q => ∃ a xs, x = .ref a ∧ SqT K H a xs ∧
  ¬ (HT.sIx xs.length 0 lo = 0 ∧ HT.sIx xs.length xs.length hi = xs.length) ∧ ∀ (p : Addr) (ob : Obj), H p = none → ob.dict = none → Q (.ref p) (upd H p (.frz ob (.tup (cutV xs lo hi))))
theorem sl_tupD : SlR X (rSlD X.K) := by
  intro pins s σ H x v vl vu lo hi sl Q I rx hs pl pu h
  obtain ⟨a, xs, rfl, hx, hw, q⟩ := h
  cases rx
  obtain ⟨its, rv, ht, hz⟩ := I.tuple hx
  have e : its.toArray.size = xs.length := by rw [List.size_toArray]; exact rv.length.symm
  refine ⟨"tuple", _, PyProof.Rows.slot_tuple_getitem.lookup, ht.typeIs, HT.getItem_tuple_cut ht hs pl pu (by rw [e]; exact hw) ?_ (by rw [e]; exact hz)⟩
  rw [e]
  let ob : Obj := { cls := .type "tuple", data := .seq ((its.toArray.toList.drop (HT.sIx xs.length 0 lo)).take (HT.sIx xs.length xs.length hi - HT.sIx xs.length 0 lo)).toArray }
  have g : (s.heap.push ob).get? s.heap.objs.size = some ob := Heap.get?_push_size s.heap rfl
  exact ⟨.ref s.heap.objs.size, upd H s.heap.objs.size (.frz ob (.tup (cutV xs lo hi))), I.laid (t' := s.toks) (fun b ob q => Heap.get?_push_of_some _ q) (Nat.le_refl _) ⟨g, Nat.le_trans (cutV_length xs lo hi) hz, _, (rv.drop (HT.sIx xs.length 0 lo)).take (HT.sIx xs.length xs.length hi - HT.sIx xs.length 0 lo), ⟨ob, g, rfl, _, rfl⟩⟩, rfl, q _ ob (I.hok.fresh (Nat.le_refl _)) rfl⟩
/-- o.index(e), o a list or a tuple of known object -/
theorem tyT {pins : List (Addr × Obj)} {σ : L2.St} {H : Hp} {s : Shared} {p : Addr} {us : List V} (I : Inv X pins σ H s) (h : SqT X.K H p us) (hd : (∃ o u, H p = some (.frz o u) ∧ o.dict = none) ∨ ∃ o, X.K.lookup p = some o ∧ o.dict = none) :
    s.TypeIs (.ref p) "tuple" ∧ ∀ a, Value.ref p = .ref a → ∃ ob, s.heap.get? a = some ob ∧ ob.dict = none := by
  obtain ⟨its, rv, pl, _⟩ := I.tuple h
  refine ⟨pl.typeIs, fun a e => ?_⟩
  cases e
  rcases hd with ⟨o, u, h1, h2⟩ | ⟨o, h1, h2⟩
  · exact ⟨o, (I.hok _ _ h1).1, h2⟩
  · exact ⟨o, I.kIn _ _ h1, h2⟩
end
end Q

/-! enumerate of a tuple -/
namespace PySem
open AutoSeq1 (wpAny_loadPart')
section
variable {prog : Program} {w : World} {A : Around} {E : Value → Shared → Prop} {s : Shared}
theorem nextOf_tup_item {it t : Addr} {i : Nat} {items : Array Value} {x : Value} {Q : Value → Shared → Prop} (hit : s.heap.IsTupleIter it t i) (ht : s.heap.IsTuple t items) (hx : items[i]? = some x)
    (hQ : ∀ h', h'.IsTupleIter it t (i + 1) → Heap.SameBut it s.heap h' → Q x { s with heap := h' }) : wpAny (model prog w) A (Builtin.SmallTypes.nextOf (.ref it)) Q E s := by
  obtain ⟨o, h1, h2, h3⟩ := id hit
  obtain ⟨o2, k1, _, n, k3⟩ := ht
  unfold Builtin.SmallTypes.nextOf
  refine wpAny_bind (wpAny_callSpecial?_slot (name := Str.ofString "__next__") hit.typeIs F.slot_tuple_iterator_next (wpAny_call_entry F.slot_tuple_iterator_next hit.typeIs F.entry_tuple_iterator_next ?_ (F.args_tuple_iterator_next_1 _)))
  show wpAny _ _ (field (.ref it) 0 >>= _) _ _ s
  refine wpAny_bind (wpAny_field h1 h3 (x := .ref t) rfl ?_)
  show wpAny _ _ (if (Value.ref t == Value.none) = true then _ else _) _ _ s
  rw [if_neg (by exact Bool.false_ne_true)]
  show wpAny _ _ (field (.ref it) 1 >>= _) _ _ s
  refine wpAny_bind (wpAny_field h1 h3 (x := .int i 0) rfl ?_)
  show wpAny _ _ (seqItems? (.ref t) >>= _) _ _ s
  refine wpAny_bind (wpAny_seqItems k1 k3 ?_)
  simp only [Int.toNat_natCast, hx]
  exact wpAny_bind (wpAny_setField h1 h3 (by simp) (wpAny_pure ⟨x, rfl, wpAny_pure (hQ _ ⟨_, Heap.get?_update_self _ h1 (Obj.isFreed_of_fields (Obj.data_mapFields h3 _)), (Obj.cls_mapFields ..).trans h2, by rw [Obj.data_mapFields h3]; simp [rawInt]⟩ (Heap.SameBut.update ..))⟩))
theorem nextOf_tup_end {it t : Addr} {i : Nat} {items : Array Value} {Q : Value → Shared → Prop} (hh : A.handled = none) (hit : s.heap.IsTupleIter it t i) (ht : s.heap.IsTuple t items) (hx : items[i]? = none)
    (hE : ∀ h' e, Heap.ExtBut it s.heap h' → (∃ o, h'.get? e = some o ∧ o.cls = .type "StopIteration") → E (.ref e) { s with heap := h' }) : wpAny (model prog w) A (Builtin.SmallTypes.nextOf (.ref it)) Q E s := by
  obtain ⟨o, h1, h2, h3⟩ := id hit
  obtain ⟨o2, k1, _, n, k3⟩ := ht
  unfold Builtin.SmallTypes.nextOf
  refine wpAny_bind (wpAny_callSpecial?_slot (name := Str.ofString "__next__") hit.typeIs F.slot_tuple_iterator_next (wpAny_call_entry F.slot_tuple_iterator_next hit.typeIs F.entry_tuple_iterator_next ?_ (F.args_tuple_iterator_next_1 _)))
  show wpAny _ _ (field (.ref it) 0 >>= _) _ _ s
  refine wpAny_bind (wpAny_field h1 h3 (x := .ref t) rfl ?_)
  show wpAny _ _ (if (Value.ref t == Value.none) = true then _ else _) _ _ s
  rw [if_neg (by exact Bool.false_ne_true)]
  show wpAny _ _ (field (.ref it) 1 >>= _) _ _ s
  refine wpAny_bind (wpAny_field h1 h3 (x := .int i 0) rfl ?_)
  show wpAny _ _ (seqItems? (.ref t) >>= _) _ _ s
  refine wpAny_bind (wpAny_seqItems k1 k3 ?_)
  simp only [Int.toNat_natCast, hx]
  refine wpAny_bind (wpAny_rule (wpAny_bind (wpAny_setField h1 h3 (by simp) ?_)))
  show wpAny _ _ (newExc (.type "StopIteration") [] >>= _) _ _ _
  refine wpAny_bind ?_
  simp only [newExc, newTuple]
  refine wpAny_bind (wpAny_newObj_type (wpAny_bind (m := firstArgMember _ _) (wpAny_of_eq (a := Value.none) (by first | rfl | (simp only [firstArgMember]; rfl)) (wpAny_newObj_type ?_ (by size_fits)))) (by size_fits))
  simp only [raiseNew]
  refine wpAny_bind (wpAny_handled ?_)
  first
    | rw [show A.in1.handled = none from hh]
    | rw [hh]
  exact wpAny_bind (wpAny_pure (wpAny_throw (hE _ _ (((Heap.SameBut.update ..).extBut.push _).push _) ⟨_, Heap.get?_push_size _ rfl, rfl⟩)))
theorem Draws.tup (hh : A.handled = none) (it l : Addr) (hne : l ≠ it) (items : Array Value) :
    Draws prog w A it [it, l] items.size (fun i v => items[i]? = some v) (fun i h => h.IsTupleIter it l i ∧ h.IsTuple l items) where
  live := fun _ _ ⟨⟨o, ho, _⟩, _⟩ => ⟨o, ho⟩
  frame := fun _ _ _ ⟨⟨o, h1, h2⟩, ⟨o2, k1, k2⟩⟩ hk => ⟨⟨o, hk it (by simp) o h1, h2⟩, ⟨o2, hk l (by simp) o2 k1, k2⟩⟩
  item := fun i s Q E hi st hQ => nextOf_tup_item st.1 st.2 (x := items[i]) (by simp [hi]) fun h' a b => hQ _ h' s.toks (by simp [hi]) ⟨a, by
    obtain ⟨_, ⟨o2, k1, k2⟩⟩ := st
    exact ⟨o2, (b.2 l hne).trans k1, k2⟩⟩ b
  done := fun s Q E st hE => nextOf_tup_end hh st.1 st.2 (by simp) hE
theorem meets_enum_newT (l : Addr) (items : Array Value) (n : Nat) (dct : Option Addr) (sl : Array (Option Value)) :
    Meets (Builtin.«enumerate.__new__» ⟨[.type "enumerate", .ref l], []⟩) (fun _ R s => s.heap.get? l = some { cls := .type "tuple", dict := dct, data := .seq items n, slots := sl } ∧
      R (.ok (.ret (.ref (s.heap.push { cls := .type "tuple_iterator", data := .fields #[.ref l, .int 0 0] }).objs.size)))
        { s with heap := (s.heap.push { cls := .type "tuple_iterator", data := .fields #[.ref l, .int 0 0] }).push { cls := .type "enumerate", data := .fields #[.none, .bool false, .ref s.heap.objs.size, rawInt 0, .none, .none] } }) :=
  .of_wp fun prog w A R s h => by
    obtain ⟨hp, g, d, tk, os⟩ := s; obtain ⟨hl, h⟩ := h
    have h0 := sub_enumerate
    have hT : Heap.IsTuple (Shared.heap ⟨hp, g, d, tk, os⟩) l items := ⟨_, hl, rfl, n, rfl⟩
    wp_walk using wpAny_loadPart' hl
    refine wpAny_stack_any fun st => wpAny_pure ?_
    split
    · rename_i c _ _ _ _ _
      cases (c == Value.type "enumerate")
      · wp_walk using wpAny_loadPart' hl, wpAny_pyIter_tuple hT
        exact ⟨_, rfl, h⟩
      · wp_walk using wpAny_loadPart' hl, wpAny_pyIter_tuple hT
        exact ⟨_, rfl, h⟩
    · wp_walk using wpAny_loadPart' hl, wpAny_pyIter_tuple hT
      exact ⟨_, rfl, h⟩
theorem call_enum_tup {l : Addr} {items : Array Value} {Q : Value → Shared → Prop} (hL : s.heap.IsTuple l items)
    (h : ∀ h', IsEnum h' (s.heap.objs.size + 1) s.heap.objs.size 0 .none → h'.IsTupleIter s.heap.objs.size l 0 → h'.objs.size = s.heap.objs.size + 2 → (∀ b o, s.heap.get? b = some o → h'.get? b = some o) → Q (.ref (s.heap.objs.size + 1)) { s with heap := h' }) :
    wpAny (model prog w) A (call (.type "enumerate") [.ref l]) Q E s := by
  obtain ⟨⟨c, dct, dt, sl⟩, hl, hc, n, hd⟩ := hL
  simp only at hc hd
  subst hc hd
  refine callType_new F.called_enumerate (by decide) (F.typeCall_enumerate_1 _) (F.newCall_enumerate_1 _) (fun obj => F.args_object_init_2 obj _) F.entry_enumerate_new (meets_enum_newT l items n dct sl) ⟨hl, ?_⟩
  have hz : (s.heap.push { cls := .type "tuple_iterator", data := .fields #[.ref l, .int 0 0] }).objs.size = s.heap.objs.size + 1 := Heap.size_push ..
  show _ ∧ _
  rw [hz]
  have he : IsEnum ((s.heap.push { cls := .type "tuple_iterator", data := .fields #[.ref l, .int 0 0] }).push { cls := .type "enumerate", data := .fields #[.none, .bool false, .ref s.heap.objs.size, rawInt 0, .none, .none] }) (s.heap.objs.size + 1) s.heap.objs.size 0 .none := by
    have := Heap.get?_push_size (s.heap.push { cls := .type "tuple_iterator", data := .fields #[.ref l, .int 0 0] }) (o := { cls := .type "enumerate", data := .fields #[.none, .bool false, .ref s.heap.objs.size, rawInt 0, .none, .none] }) rfl
    rw [hz] at this; exact this
  exact ⟨⟨_, he, rfl⟩, h _ he ⟨_, Heap.get?_push_of_some _ (Heap.get?_push_size _ rfl), rfl, rfl⟩ (by rw [Heap.size_push, hz]) fun b o x => Heap.get?_push_of_some _ (Heap.get?_push_of_some _ x)⟩
end
end PySem
namespace Q
open PySem PySem.Spec PyProof.Rows L2
/-- the tuple at a as it stands at each turn, each item in a new pair -/
def IteT (K : PySem.W.Frag) (a : Addr) : It :=
  ⟨fun i H => ∃ (xs : List V) (x : V), SqT K H a xs ∧ xs[i]? = some x, fun i H v H' => ∃ T x, v = .ref T ∧ H T = none ∧ H' = upd H T (.tup [.int (i : Nat), x]) ∧ ∀ xs, SqT K H a xs → xs[i]? = some x, fun i H => ∃ xs : List V, SqT K H a xs ∧ xs.length ≤ i⟩
theorem turn_enumT {P : Program} {w : World} {K : PySem.W.Frag} {elts : List Expr} {kk : Nat} {tpos : Pos} {a e it : Addr} (hae : a ≠ e) (hai : a ≠ it) :
    Turn P w K (.Tuple elts kk tpos) (IteT K a) [e, it] e (fun i h => (∃ old, IsEnum h e it ((i : Nat) : Int) old) ∧ h.IsTupleIter it a i ∧ e ≠ it) where
  mem := by simp
  obj := fun i h st b hb => by
    obtain ⟨⟨old, he⟩, ⟨o, ho, hc, hd⟩, _⟩ := st
    rcases (show b = e ∨ b = it by simpa using hb) with rfl | rfl
    · exact ⟨_, he, fun v q => nomatch q⟩
    · exact ⟨o, ho, fun v q => by rw [hd] at q; cases q⟩
  keep := fun i h h' ⟨⟨old, he⟩, hi, hne⟩ k => ⟨⟨old, k e (by simp) _ he⟩, hi.at fun o q => k it (by simp) o q, hne⟩
  item := by
    intro X hP hw hK hc i pins s σ H E I hf st hg
    subst hP hw hK
    obtain ⟨⟨old, he⟩, hit, hne⟩ := st
    obtain ⟨xs, x, hq, hx⟩ := hg
    obtain ⟨its, rv, p, hz⟩ := I.tuple hq
    obtain ⟨u, hu, ru⟩ := rv.get hx
    have hel : e < s.heap.objs.size := Heap.lt_size he
    have hil : it < s.heap.objs.size := by obtain ⟨_, q, _⟩ := hit; exact Heap.lt_size q
    refine wpAny_pyNext_enum_itemD (fp := [it, a]) (n := its.toArray.size) (Draws.tup (by exact I.ok.hd hc) it a hai its.toArray) he ⟨hit, p⟩ (by have := (List.getElem?_eq_some_iff.mp hu).1; simpa using this) hne (by simp [hne, Ne.symm hae]) fun y h' tk hy ho hit' hT hsz hk => ?_
    have hyu : y = u := by
      have : its[i]? = some y := by simpa using hy
      rw [hu] at this
      exact (Option.some.inj this).symm
    subst hyu
    refine ⟨_, rfl, wpAny_letOwnedTupleGo_enum (s := { s with heap := h', toks := tk + 1 }) ho fun h'' he' sb => ?_⟩
    have hT2 : h''.get? s.heap.objs.size = some { cls := .type "tuple", data := .seq #[.int i tk, y] } := (sb.2 _ (Nat.ne_of_gt hel)).trans hT
    have new : ObjOk X.prog X.w (upd H s.heap.objs.size (.tup [.int (i : Nat), x])) h'' s.heap.objs.size (.tup [.int (i : Nat), x]) := ⟨by show 2 ≤ sizeLine; decide, [.int i tk, y], .cons ⟨_, rfl⟩ (.cons ru .nil), ⟨_, hT2, rfl, _, rfl⟩⟩
    have I1 : Inv X pins σ (upd H s.heap.objs.size (.tup [.int (i : Nat), x])) { s with heap := h'', toks := tk + 1 } :=
      I.turnedNew (ch := [e, it]) (fun b ob hb q => (sb.2 b fun z => hb (by simp [z])).trans (hk b ob (fun z => hb (by simp [z])) (fun z => hb (by simp [z])) q)) hf (Nat.le_refl _) new
    refine ⟨.ref s.heap.objs.size, _, I1, rfl, ⟨_, x, rfl, I.hok.fresh (Nat.le_refl _), rfl, fun ys hy => by rw [I.tuple_inj hy hq]; exact hx⟩, ⟨⟨y, by rw [show ((i + 1 : Nat) : Int) = (i : Int) + 1 by omega]; exact he'⟩, hit'.1.at fun o q => (sb.2 it (Ne.symm hne)).trans q, hne⟩, fun b hb => ?_⟩
    have lt : b < s.heap.objs.size := by rcases (show b = e ∨ b = it by simpa using hb) with z | z <;> rw [z] <;> assumption
    rw [upd_ne (Nat.ne_of_lt lt)]
    exact (hf b hb).1
  done := by
    intro X hP hw hK hc i pins s σ H E I hf st hg
    subst hP hw hK
    obtain ⟨⟨old, he⟩, hit, hne⟩ := st
    obtain ⟨xs, hq, hx⟩ := hg
    obtain ⟨its, rv, p, hz⟩ := I.tuple hq
    obtain ⟨f0, f1, f2, f3, f4, f5⟩ := hf it (by simp)
    have hT : s.TypeIs (.ref e) "enumerate" := ⟨_, he, rfl⟩
    unfold pyNext
    refine wpAny_bind (wpAny_attempt (wpAny_callSpecial?_slot (name := Str.ofString "__next__") hT F.slot_enumerate_next (wpAny_call_entry F.slot_enumerate_next hT F.entry_enumerate_next ?_ (F.args_enumerate_next_1 _))))
    show wpAny _ _ (field (.ref e) 2 >>= _) _ _ _
    refine wpAny_bind (wpAny_field he rfl (x := .ref it) rfl (wpAny_bind (nextOf_tup_end (by exact I.ok.hd hc) hit p (by have := rv.length; simp; omega) fun h' x0 eb hx' => ?_)))
    obtain ⟨o, ho, hcl⟩ := hx'
    exact wpAny_bind (wpAny_isInstance (T := "StopIteration") (b := true) ⟨o, ho, hcl⟩ isSubtype_stop (wpAny_pure ⟨rfl, I.turned (t' := s.toks) (fun b o hb q => eb b o hb q) f0 f1 f3 f4 f5⟩))
  self := fun A i s Q E ⟨⟨_, he⟩, _⟩ h => wpAny_pyIter_enum he h
def iEnumA (K : PySem.W.Frag) (ta : TA) : TI := fun σ H R => ta σ H fun vs H1 => ∃ a xs, vs = [.ref a] ∧ ((SqL K H1 a xs ∧ R (Ite K a) H1) ∨ (SqT K H1 a xs ∧ R (IteT K a) H1))
theorem pi_enumA {X : Cx} {e : Expr} {ta : TA} {p pos tpos : Pos} {elts : List Expr} {kk : Nat} (hg : Gl X "enumerate") (hm : X.mg "enumerate" = none) (ha : PA X [e] ta) (hs : starEach [e] X.env = [(false, eval e X.env)] := by rfl) :
    PI X (.Tuple elts kk tpos) (.Call (.Name "enumerate" p) [e] [] pos) (iEnumA X.K ta) := by
  refine ⟨fun pins s σ H R I h => Call_ (ld_blt I hg hm boot_enumerate (PyProof.Rows.callWith_type1 (thn (ha.run pos pins s σ H _ I h) fun us s1 k => ?_) hs rfl))⟩
  obtain ⟨vs, H1, I1, r1, a, xs, rfl, q1⟩ := k
  cases r1 with
  | cons r rr =>
    cases rr
    cases r
    have go : ∀ b, b = s1.heap.objs.size + 1 ∨ b = s1.heap.objs.size → s1.heap.objs.size ≤ b := fun b z => by omega
    rcases q1 with ⟨hq, q⟩ | ⟨hq, q⟩
    · obtain ⟨its, rv, p', hz⟩ := I1.list hq
      refine call_enumerate_list p'.isList fun h' he hit hsz hk => wpAny_pyIter_enum he ?_
      have I2 : Inv X pins σ H1 { s1 with heap := h' } := I1.kept (t' := s1.toks) hk
      refine ⟨s1.heap.objs.size + 1, [s1.heap.objs.size + 1, s1.heap.objs.size], _, _, H1, rfl, I2, turn_enum a (s1.heap.objs.size + 1) s1.heap.objs.size, ⟨⟨.none, he⟩, hit, Nat.succ_ne_self _⟩, fun b hb => ?_, q⟩
      have hle := go b (by simpa using hb)
      exact I1.fpOk hle (I1.hok.fresh hle)
    · obtain ⟨its, rv, p', hz⟩ := I1.tuple hq
      have hal : a < s1.heap.objs.size := by obtain ⟨o, ho, _⟩ := p'; exact Heap.lt_size ho
      refine call_enum_tup p' fun h' he hit hsz hk => wpAny_pyIter_enum he ?_
      have I2 : Inv X pins σ H1 { s1 with heap := h' } := I1.kept (t' := s1.toks) hk
      refine ⟨s1.heap.objs.size + 1, [s1.heap.objs.size + 1, s1.heap.objs.size], _, _, H1, rfl, I2, turn_enumT (a := a) (Nat.ne_of_lt (Nat.lt_succ_of_lt hal)) (Nat.ne_of_lt hal), ⟨⟨.none, he⟩, hit, Nat.succ_ne_self _⟩, fun b hb => ?_, q⟩
      have hle := go b (by simpa using hb)
      exact I1.fpOk hle (I1.hok.fresh hle)
theorem walk_enumT0 {K : PySem.W.Frag} {a : Addr} {xs : List V} : L2.Walk (IteT K a) xs.length (fun H => SqT K H a xs) (YPair (fun i => some (.int (i : Nat))) (fun i => xs[i]?)) := by
  refine ⟨fun i _ hi q => ⟨xs, xs[i], q, by simp [hi]⟩, fun _ q => ⟨xs, q, Nat.le_refl _⟩, fun i H v H' _ q y => ?_⟩
  obtain ⟨T, x, h1, h2, h3, h4⟩ := y
  exact ⟨T, .int (i : Nat), x, h1, h2, h3, rfl, h4 xs q⟩
end Q

namespace Q
open PySem L2

/-- data: what a Python value tells, lists with the mark whether they are nobody else's -/
inductive D where
  | non | bl (b : Bool) | int (i : Int) | str (s : Str)
  | tup (ds : List D) | lst (own : Bool) (ds : List D)
  | dic (own : Bool) (ks : List Key) (ds : List D)
  | frz (ds : List D)

/-- a list that is read only (the script) -/
def FrzOk (K : PySem.W.Frag) (H : Hp) (F : Addr → Prop) (a : Addr) (us : List V) : Prop :=
  (Rd H a (.lst us) ∧ F a) ∨
    ∃ (o : Obj) (its : Array Value) (n : Nat), K.lookup a = some o ∧ o.cls = .type "list" ∧ o.dict = none ∧ o.data = .seq its n ∧ its.size ≤ sizeLine ∧ Vals us its.toList
theorem FrzOk.sq {K : PySem.W.Frag} {H : Hp} {F : Addr → Prop} {a : Addr} {us : List V} (h : FrzOk K H F a us) : SqL K H a us := by
  rcases h with ⟨h, _⟩ | h
  · exact .inl h
  · exact .inr h

/-- a tuple whose object is known to have no dict -/
def TDn (K : PySem.W.Frag) (H : Hp) (a : Addr) : Prop := (∃ o u, H a = some (.frz o u) ∧ o.dict = none) ∨ ∃ o, K.lookup a = some o ∧ o.dict = none
def SqD (K : PySem.W.Frag) (H : Hp) (a : Addr) (us : List V) : Prop := SqT K H a us ∧ TDn K H a
/-- data over the heap: F the addresses that stay as they are, W those that are ours alone -/
inductive Reps (K : PySem.W.Frag) (H : Hp) (F : Addr → Prop) : List D → List V → List Addr → Prop
  | nil : Reps K H F [] [] []
  | non {ds vs W} : Reps K H F ds vs W → Reps K H F (.non :: ds) (.non :: vs) W
  | bl {b ds vs W} : Reps K H F ds vs W → Reps K H F (.bl b :: ds) (.bl b :: vs) W
  | int {i ds vs W} : Reps K H F ds vs W → Reps K H F (.int i :: ds) (.int i :: vs) W
  | str {s ds vs W} : Reps K H F ds vs W → Reps K H F (.str s :: ds) (.str s :: vs) W
  | tup {a us es W1 ds vs W2} : SqD K H a us → Reps K H F es us W1 → Reps K H F ds vs W2 → Reps K H F (.tup es :: ds) (.ref a :: vs) (W1 ++ W2)
  | sh {a us es ds vs W} : F a → H a = some (.lst us) → Reps K H F es us [] → Reps K H F ds vs W → Reps K H F (.lst false es :: ds) (.ref a :: vs) W
  | own {a us es W1 ds vs W2} : H a = some (.lst us) → Reps K H F es us W1 → Reps K H F ds vs W2 → Reps K H F (.lst true es :: ds) (.ref a :: vs) (a :: (W1 ++ W2))
  | dsh {a ks us es ds vs W} : F a → H a = some (.dK (ks.zip us)) → ks.length = us.length → Reps K H F es us [] → Reps K H F ds vs W → Reps K H F (.dic false ks es :: ds) (.ref a :: vs) W
  | down {a ks us es W1 ds vs W2} : H a = some (.dK (ks.zip us)) → ks.length = us.length → Reps K H F es us W1 → Reps K H F ds vs W2 → Reps K H F (.dic true ks es :: ds) (.ref a :: vs) (a :: (W1 ++ W2))
  | frz {a us es ds vs W} : FrzOk K H F a us → Reps K H F es us [] → Reps K H F ds vs W → Reps K H F (.frz es :: ds) (.ref a :: vs) W

def IsMut (H : Hp) (a : Addr) : Prop := (∃ xs, H a = some (.lst xs)) ∨ ∃ kvs, H a = some (.dK kvs)
theorem IsMut.some {H : Hp} {a : Addr} (h : IsMut H a) : H a ≠ none := by
  rcases h with ⟨_, h⟩ | ⟨_, h⟩ <;> (rw [h]; exact fun z => nomatch z)

section
variable {K : PySem.W.Frag} {H H' : Hp} {F F' : Addr → Prop} {ds : List D} {vs : List V} {W W1 W2 B : List Addr}

theorem Reps.muts (r : Reps K H F ds vs W) : ∀ a ∈ W, IsMut H a := by
  induction r with
  | nil => intro a h; cases h
  | non _ ih | bl _ ih | int _ ih | str _ ih => exact ih
  | tup _ _ _ i1 i2 => intro a h; rcases List.mem_append.mp h with h | h; exact i1 a h; exact i2 a h
  | sh _ _ _ _ _ ih => exact ih
  | own h _ _ i1 i2 =>
    intro a hm
    rcases List.mem_cons.mp hm with rfl | hm
    · exact .inl ⟨_, h⟩
    · rcases List.mem_append.mp hm with h | h; exact i1 a h; exact i2 a h
  | dsh _ _ _ _ _ _ ih => exact ih
  | down h _ _ _ i1 i2 =>
    intro a hm
    rcases List.mem_cons.mp hm with rfl | hm
    · exact .inr ⟨_, h⟩
    · rcases List.mem_append.mp hm with h | h; exact i1 a h; exact i2 a h
  | frz _ _ _ _ ih => exact ih

theorem Reps.length (r : Reps K H F ds vs W) : ds.length = vs.length := by
  induction r <;> simp_all

theorem SqT.frame {a : Addr} {us : List V} (h : SqT K H a us) (k : ∀ a o, H a = some o → a ∉ B → H' a = some o) (hm : ∀ a ∈ B, IsMut H a) : SqT K H' a us := by
  rcases h with h | h
  · refine .inl ?_
    rcases h with h | ⟨o, h⟩
    · refine .inl (k _ _ h fun z => ?_)
      rcases hm _ z with ⟨_, q⟩ | ⟨_, q⟩ <;> rw [h] at q <;> cases q
    · refine .inr ⟨o, k _ _ h fun z => ?_⟩
      rcases hm _ z with ⟨_, q⟩ | ⟨_, q⟩ <;> rw [h] at q <;> cases q
  · exact .inr h

theorem SqD.frame {a : Addr} {us : List V} (h : SqD K H a us) (k : ∀ a o, H a = some o → a ∉ B → H' a = some o) (hm : ∀ a ∈ B, IsMut H a) : SqD K H' a us := by
  refine ⟨SqT.frame h.1 k hm, ?_⟩
  rcases h.2 with ⟨o, u, h1, h2⟩ | h2
  · refine .inl ⟨o, u, k _ _ h1 fun z => ?_, h2⟩
    rcases hm _ z with ⟨_, q⟩ | ⟨_, q⟩ <;> rw [h1] at q <;> cases q
  · exact .inr h2
/-- what is changed elsewhere leaves it -/
theorem Reps.frame (r : Reps K H F ds vs W) (k : ∀ a o, H a = some o → a ∉ B → H' a = some o) (hm : ∀ a ∈ B, IsMut H a) (hd : ∀ a ∈ W, a ∉ B) (hF : ∀ a, F a → a ∉ B) (mono : ∀ a, F a → F' a) :
    Reps K H' F' ds vs W := by
  induction r with
  | nil => exact .nil
  | non _ ih => exact .non (ih hd)
  | bl _ ih => exact .bl (ih hd)
  | int _ ih => exact .int (ih hd)
  | str _ ih => exact .str (ih hd)
  | tup h _ _ i1 i2 => exact .tup (SqD.frame h k hm) (i1 fun a m => hd a (List.mem_append_left _ m)) (i2 fun a m => hd a (List.mem_append_right _ m))
  | sh f h _ _ i1 i2 => exact .sh (mono _ f) (k _ _ h (hF _ f)) (i1 fun a m => nomatch m) (i2 hd)
  | own h _ _ i1 i2 =>
    exact .own (k _ _ h (hd _ List.mem_cons_self)) (i1 fun a m => hd a (List.mem_cons_of_mem _ (List.mem_append_left _ m))) (i2 fun a m => hd a (List.mem_cons_of_mem _ (List.mem_append_right _ m)))
  | dsh f h e _ _ i1 i2 => exact .dsh (mono _ f) (k _ _ h (hF _ f)) e (i1 fun a m => nomatch m) (i2 hd)
  | down h e _ _ i1 i2 =>
    exact .down (k _ _ h (hd _ List.mem_cons_self)) e (i1 fun a m => hd a (List.mem_cons_of_mem _ (List.mem_append_left _ m))) (i2 fun a m => hd a (List.mem_cons_of_mem _ (List.mem_append_right _ m)))
  | frz f _ _ i1 i2 =>
    refine .frz ?_ (i1 fun a m => nomatch m) (i2 hd)
    rcases f with ⟨f, g⟩ | f
    · refine .inl ⟨?_, mono _ g⟩
      rcases f with f | ⟨o, f⟩
      · exact .inl (k _ _ f (hF _ g))
      · exact .inr ⟨o, k _ _ f (hF _ g)⟩
    · exact .inr f

mutual
/-- the lists of d are ours alone, or there are none: none is marked as another's -/
def D.noSh : D → Bool
  | .non | .bl _ | .int _ | .str _ => true
  | .tup ds => D.noShs ds
  | .lst b ds => b && D.noShs ds
  | .dic b _ ds => b && D.noShs ds
  | .frz _ => false
def D.noShs : List D → Bool
  | [] => true
  | d :: ds => d.noSh && D.noShs ds
end
mutual
def D.noOwn : D → Bool
  | .non | .bl _ | .int _ | .str _ => true
  | .tup ds => D.noOwns ds
  | .lst b ds => !b && D.noOwns ds
  | .dic b _ ds => !b && D.noOwns ds
  | .frz _ => true
def D.noOwns : List D → Bool
  | [] => true
  | d :: ds => d.noOwn && D.noOwns ds
end
mutual
/-- handed on: nobody changes it any more -/
def D.fz : D → D
  | .non => .non
  | .bl b => .bl b
  | .int i => .int i
  | .str s => .str s
  | .tup ds => .tup (D.fzs ds)
  | .lst _ ds => .lst false (D.fzs ds)
  | .dic _ ks ds => .dic false ks (D.fzs ds)
  | .frz ds => .frz ds
def D.fzs : List D → List D
  | [] => []
  | d :: ds => d.fz :: D.fzs ds
end
theorem fzs_eq : ∀ ds : List D, D.fzs ds = ds.map D.fz
  | [] => by simp [D.fzs]
  | d :: ds => by simp [D.fzs, fzs_eq ds]
theorem noShs_eq : ∀ ds : List D, D.noShs ds = ds.all D.noSh
  | [] => by simp [D.noShs]
  | d :: ds => by simp [D.noShs, noShs_eq ds]
theorem noOwns_eq : ∀ ds : List D, D.noOwns ds = ds.all D.noOwn
  | [] => by simp [D.noOwns]
  | d :: ds => by simp [D.noOwns, noOwns_eq ds]

theorem Reps.noSh (r : Reps K H F ds vs W) (h : D.noShs ds = true) : Reps K H F' ds vs W := by
  induction r with
  | nil => exact .nil
  | non _ ih => exact .non (ih (by simpa [D.noShs, D.noSh] using h))
  | bl _ ih => exact .bl (ih (by simpa [D.noShs, D.noSh] using h))
  | int _ ih => exact .int (ih (by simpa [D.noShs, D.noSh] using h))
  | str _ ih => exact .str (ih (by simpa [D.noShs, D.noSh] using h))
  | tup s _ _ i1 i2 =>
    simp only [D.noShs, D.noSh, Bool.and_eq_true] at h
    exact .tup s (i1 h.1) (i2 h.2)
  | sh f s _ _ i1 i2 => simp [D.noShs, D.noSh] at h
  | own s _ _ i1 i2 =>
    simp only [D.noShs, D.noSh, Bool.and_eq_true, Bool.true_and] at h
    exact .own s (i1 h.1) (i2 h.2)
  | dsh f s e _ _ i1 i2 => simp [D.noShs, D.noSh] at h
  | down s e _ _ i1 i2 =>
    simp only [D.noShs, D.noSh, Bool.and_eq_true, Bool.true_and] at h
    exact .down s e (i1 h.1) (i2 h.2)
  | frz => simp [D.noShs, D.noSh] at h

theorem Reps.noOwn (r : Reps K H F ds vs W) (h : D.noOwns ds = true) : W = [] := by
  induction r with
  | nil => rfl
  | non _ ih => exact ih (by simpa [D.noOwns, D.noOwn] using h)
  | bl _ ih => exact ih (by simpa [D.noOwns, D.noOwn] using h)
  | int _ ih => exact ih (by simpa [D.noOwns, D.noOwn] using h)
  | str _ ih => exact ih (by simpa [D.noOwns, D.noOwn] using h)
  | tup s _ _ i1 i2 =>
    simp only [D.noOwns, D.noOwn, Bool.and_eq_true] at h
    rw [i1 h.1, i2 h.2]; rfl
  | sh f s _ _ i1 i2 => simp only [D.noOwns, D.noOwn, Bool.and_eq_true] at h; exact i2 h.2
  | own s _ _ i1 i2 => simp [D.noOwns, D.noOwn] at h
  | dsh f s e _ _ i1 i2 => simp only [D.noOwns, D.noOwn, Bool.and_eq_true] at h; exact i2 h.2
  | down s e _ _ i1 i2 => simp [D.noOwns, D.noOwn] at h
  | frz _ _ _ _ i2 => simp only [D.noOwns, D.noOwn, Bool.true_and] at h; exact i2 h

/-- nobody changes it any more: the addresses that were ours go to those that stay -/
theorem Reps.fz (r : Reps K H F ds vs W) (hF : ∀ a, F a → F' a) (hW : ∀ a ∈ W, F' a) : Reps K H F' (D.fzs ds) vs [] := by
  induction r with
  | nil => exact .nil
  | non _ ih => exact .non (ih hW)
  | bl _ ih => exact .bl (ih hW)
  | int _ ih => exact .int (ih hW)
  | str _ ih => exact .str (ih hW)
  | tup s _ _ i1 i2 =>
    have := Reps.tup s (i1 fun a m => hW a (List.mem_append_left _ m)) (i2 fun a m => hW a (List.mem_append_right _ m))
    simpa [D.fzs, D.fz] using this
  | sh f s _ _ i1 i2 =>
    have := Reps.sh (hF _ f) s (i1 fun a m => nomatch m) (i2 hW)
    simpa [D.fzs, D.fz] using this
  | own s _ _ i1 i2 =>
    have := Reps.sh (hW _ List.mem_cons_self) s (i1 fun a m => hW a (List.mem_cons_of_mem _ (List.mem_append_left _ m))) (i2 fun a m => hW a (List.mem_cons_of_mem _ (List.mem_append_right _ m)))
    simpa [D.fzs, D.fz] using this
  | dsh f s e _ _ i1 i2 =>
    have := Reps.dsh (hF _ f) s e (i1 fun a m => nomatch m) (i2 hW)
    simpa [D.fzs, D.fz] using this
  | down s e _ _ i1 i2 =>
    have := Reps.dsh (hW _ List.mem_cons_self) s e (i1 fun a m => hW a (List.mem_cons_of_mem _ (List.mem_append_left _ m))) (i2 fun a m => hW a (List.mem_cons_of_mem _ (List.mem_append_right _ m)))
    simpa [D.fzs, D.fz] using this
  | @frz a us es ds vs W f r1 r2 i1 i2 =>
    have f' : FrzOk K H F' a us := by
      rcases f with ⟨f, g⟩ | f
      · exact .inl ⟨f, hF _ g⟩
      · exact .inr f
    have r1' : Reps K H F' es us [] := r1.frame (B := []) (fun a o h _ => h) (fun a m => nomatch m) (fun a m => nomatch m) (fun a _ m => nomatch m) hF
    have := Reps.frz f' r1' (i2 hW)
    simpa [D.fzs, D.fz] using this

theorem Reps.cons_iff {d : D} {v : V} : Reps K H F (d :: ds) (v :: vs) W ↔ ∃ W1 W2, W = W1 ++ W2 ∧ Reps K H F [d] [v] W1 ∧ Reps K H F ds vs W2 := by
  constructor
  · intro h
    cases h with
    | non r => exact ⟨[], W, rfl, .non .nil, r⟩
    | bl r => exact ⟨[], W, rfl, .bl .nil, r⟩
    | int r => exact ⟨[], W, rfl, .int .nil, r⟩
    | str r => exact ⟨[], W, rfl, .str .nil, r⟩
    | @tup a us es W1 _ _ W2 s r1 r2 => exact ⟨W1, W2, rfl, by simpa using Reps.tup s r1 .nil, r2⟩
    | sh f s r1 r2 => exact ⟨[], W, rfl, .sh f s r1 .nil, r2⟩
    | @own a us es W1 _ _ W2 s r1 r2 => exact ⟨a :: W1, W2, by simp, by simpa using Reps.own s r1 .nil, r2⟩
    | dsh f s e r1 r2 => exact ⟨[], W, rfl, .dsh f s e r1 .nil, r2⟩
    | @down a ks us es W1 _ _ W2 s e r1 r2 => exact ⟨a :: W1, W2, by simp, by simpa using Reps.down s e r1 .nil, r2⟩
    | frz f r1 r2 => exact ⟨[], W, rfl, .frz f r1 .nil, r2⟩
  · rintro ⟨W1, W2, rfl, h, h2⟩
    cases h with
    | non r => cases r; exact .non h2
    | bl r => cases r; exact .bl h2
    | int r => cases r; exact .int h2
    | str r => cases r; exact .str h2
    | tup s r1 r2 => cases r2; simpa using Reps.tup s r1 h2
    | sh f s r1 r2 => cases r2; simpa using Reps.sh f s r1 h2
    | own s r1 r2 => cases r2; simpa using Reps.own s r1 h2
    | dsh f s e r1 r2 => cases r2; simpa using Reps.dsh f s e r1 h2
    | down s e r1 r2 => cases r2; simpa using Reps.down s e r1 h2
    | frz f r1 r2 => cases r2; simpa using Reps.frz f r1 h2

theorem Reps.append {ds2 : List D} {vs2 : List V} : ∀ {ds : List D} {vs : List V} {W1 : List Addr}, Reps K H F ds vs W1 → Reps K H F ds2 vs2 W2 → Reps K H F (ds ++ ds2) (vs ++ vs2) (W1 ++ W2)
  | [], [], _, h, h2 => by cases h; exact h2
  | d :: ds, v :: vs, _, h, h2 => by
    obtain ⟨Wa, Wb, rfl, ra, rb⟩ := Reps.cons_iff.mp h
    rw [List.append_assoc]
    exact Reps.cons_iff.mpr ⟨Wa, _, rfl, ra, rb.append h2⟩
  | [], v :: vs, _, h, _ => by cases h
  | d :: ds, [], _, h, _ => by cases h

theorem Reps.split {ds2 : List D} : ∀ {ds : List D} {vs : List V} {W : List Addr}, Reps K H F (ds ++ ds2) vs W → ∃ vs1 vs2 W1 W2, vs = vs1 ++ vs2 ∧ W = W1 ++ W2 ∧ Reps K H F ds vs1 W1 ∧ Reps K H F ds2 vs2 W2
  | [], vs, W, h => ⟨[], vs, [], W, rfl, rfl, .nil, h⟩
  | d :: ds, [], _, h => by cases h
  | d :: ds, v :: vs, _, h => by
    obtain ⟨Wa, Wb, rfl, ra, rb⟩ := Reps.cons_iff.mp h
    obtain ⟨v1, v2, W1, W2, rfl, rfl, r1, r2⟩ := Reps.split rb
    exact ⟨v :: v1, v2, Wa ++ W1, W2, rfl, by simp, Reps.cons_iff.mpr ⟨Wa, W1, rfl, ra, r1⟩, r2⟩

theorem Reps.get : ∀ {ds : List D} {vs : List V} {W : List Addr} {i : Nat} {d : D}, Reps K H F ds vs W → ds[i]? = some d → ∃ v W1, vs[i]? = some v ∧ Reps K H F [d] [v] W1 ∧ W1.Sublist W
  | [], _, _, _, _, _, e => by simp at e
  | d :: ds, [], _, _, _, h, _ => by cases h
  | d :: ds, v :: vs, _, 0, d', h, e => by
    obtain ⟨Wa, Wb, rfl, ra, rb⟩ := Reps.cons_iff.mp h
    simp at e; subst e
    exact ⟨v, Wa, rfl, ra, List.sublist_append_left ..⟩
  | d :: ds, v :: vs, _, i + 1, d', h, e => by
    obtain ⟨Wa, Wb, rfl, ra, rb⟩ := Reps.cons_iff.mp h
    obtain ⟨v', W1, e1, r1, s1⟩ := Reps.get (i := i) rb (by simpa using e)
    exact ⟨v', W1, by simpa using e1, r1, s1.trans (List.sublist_append_right ..)⟩
end

/-- the addresses that are ours: unlike, none of those that stay -/
structure Wf (H : Hp) (F : Addr → Prop) (W : List Addr) : Prop where
  nd : W.Nodup
  dj : ∀ a ∈ W, ¬ F a
  tr : ∀ a, F a → H a ≠ none

/-- from one state to a later one -/
structure Ext (H : Hp) (F : Addr → Prop) (W : List Addr) (H' : Hp) (F' : Addr → Prop) (W' : List Addr) : Prop where
  keep : ∀ a o, H a = some o → a ∉ W → H' a = some o
  w : ∀ a ∈ W', a ∈ W ∨ H a = none
  mono : ∀ a, F a → F' a
  f : ∀ a, F' a → F a ∨ a ∈ W ∨ H a = none
  live : ∀ a, H a ≠ none → H' a ≠ none

section
variable {K : PySem.W.Frag} {H H1 H2 : Hp} {F F1 F2 : Addr → Prop} {W W0 W1 W2 : List Addr} {ds : List D} {vs : List V}
theorem Ext.refl : Ext H F W H F W := ⟨fun _ _ h _ => h, fun _ h => .inl h, fun _ h => h, fun _ h => .inl h, fun _ h => h⟩
theorem Ext.trans (a : Ext H F W H1 F1 W1) (b : Ext H1 F1 W1 H2 F2 W2) : Ext H F W H2 F2 W2 where
  keep := fun c o h n => b.keep c o (a.keep c o h n) fun m => (a.w c m).elim n fun z => by rw [h] at z; cases z
  w := fun c m => (b.w c m).elim (a.w c) fun z => .inr (by
    cases q : H c with
    | none => rfl
    | some o => exact absurd z (a.live c (by rw [q]; exact fun z => nomatch z)))
  mono := fun c h => b.mono c (a.mono c h)
  f := fun c h => by
    have no : H1 c = none → H c = none := fun z => by
      cases q : H c with
      | none => rfl
      | some o => exact absurd z (a.live c (by rw [q]; exact fun z => nomatch z))
    rcases b.f c h with z | z | z
    · exact a.f c z
    · exact .inr (a.w c z)
    · exact .inr (.inr (no z))
  live := fun c h => b.live c (a.live c h)
theorem Ext.sub (a : Ext H F W H1 F1 W1) (h : ∀ c ∈ W2, c ∈ W1) : Ext H F W H1 F1 W2 := ⟨a.keep, fun c m => a.w c (h c m), a.mono, a.f, a.live⟩
theorem Ext.wid (a : Ext H F W H1 F1 W1) (h : ∀ c ∈ W, c ∈ W0) : Ext H F W0 H1 F1 W1 :=
  ⟨fun c o e n => a.keep c o e fun z => n (h c z), fun c m => (a.w c m).elim (fun z => .inl (h c z)) .inr, a.mono, fun c z => (a.f c z).elim .inl fun z => .inr (z.elim (fun z => .inl (h c z)) .inr), a.live⟩
theorem Wf.sub (h : Wf H F W) (s : W1.Sublist W) : Wf H F W1 := ⟨h.nd.sublist s, fun a m => h.dj a (s.subset m), h.tr⟩
theorem Wf.perm (h : Wf H F W) (p : W.Perm W1) : Wf H F W1 := ⟨p.nodup_iff.mp h.nd, fun a m => h.dj a (p.mem_iff.mpr m), h.tr⟩
theorem Wf.left (h : Wf H F (W1 ++ W2)) : Wf H F W1 := h.sub (List.sublist_append_left ..)
theorem Wf.right (h : Wf H F (W1 ++ W2)) : Wf H F W2 := h.sub (List.sublist_append_right ..)

/-- what stands aside (temporaries) stays -/
theorem aside (r : Reps K H F ds vs W0) (m : ∀ a ∈ W, IsMut H a) (w : Wf H F (W0 ++ W)) (x : Ext H F W H1 F1 W1) (w1 : Wf H1 F1 W1) :
    Reps K H1 F1 ds vs W0 ∧ Wf H1 F1 (W0 ++ W1) ∧ Ext H F (W0 ++ W) H1 F1 (W0 ++ W1) := by
  have nd := List.nodup_append.mp w.nd
  have dis : ∀ a ∈ W0, a ∉ W := fun a h z => nd.2.2 a h a z rfl
  have m0 := r.muts
  refine ⟨r.frame x.keep m dis (fun a h z => w.dj a (List.mem_append_right _ z) h) x.mono, ⟨?_, fun a h => ?_, w1.tr⟩, ⟨fun a o h n => x.keep a o h fun z => n (List.mem_append_right _ z), fun a h => ?_, x.mono, fun a h => ?_, x.live⟩⟩
  · refine List.nodup_append.mpr ⟨nd.1, w1.nd, fun a h b h' e => ?_⟩
    subst e
    rcases x.w a h' with z | z
    · exact dis a h z
    · exact (m0 a h).some z
  · rcases List.mem_append.mp h with h | h
    · intro z
      rcases x.f a z with z | z | z
      · exact w.dj a (List.mem_append_left _ h) z
      · exact dis a h z
      · exact (m0 a h).some z
    · exact w1.dj a h
  · rcases List.mem_append.mp h with h | h
    · exact .inl (List.mem_append_left _ h)
    · exact (x.w a h).elim (fun z => .inl (List.mem_append_right _ z)) .inr
  · rcases x.f a h with z | z | z
    · exact .inl z
    · exact .inr (.inl (List.mem_append_right _ z))
    · exact .inr (.inr z)
end

/-! ### the locals -/
abbrev Lcs := List (Option D)
/-- the locals' data, slot by slot, with the addresses of each that are ours -/
inductive LReps (K : PySem.W.Frag) (H : Hp) (F : Addr → Prop) : Lcs → St → List (List Addr) → Prop
  | nil : LReps K H F [] [] []
  | skip {L σ ws x} : LReps K H F L σ ws → LReps K H F (none :: L) (x :: σ) ([] :: ws)
  | cons {d v L σ W1 ws} : Reps K H F [d] [v] W1 → LReps K H F L σ ws → LReps K H F (some d :: L) (some v :: σ) (W1 :: ws)
theorem flat_set {ws : List (List Addr)} {i : Nat} {W : List Addr} : (i < ws.length) → (ws.set i W).flatten.Perm (W ++ (ws.set i []).flatten) := by
  induction ws generalizing i with
  | nil => intro h; simp at h
  | cons w ws ih =>
    intro h
    cases i with
    | zero => simp
    | succ i =>
      simp only [List.set_cons_succ, List.flatten_cons]
      refine (List.Perm.append_left w (ih (by simpa using h))).trans ?_
      rw [← List.append_assoc, ← List.append_assoc]
      exact List.Perm.append_right _ List.perm_append_comm
theorem flat_take {ws : List (List Addr)} {i : Nat} : (i < ws.length) → ws.flatten.Perm (ws.getD i [] ++ (ws.set i []).flatten) := by
  induction ws generalizing i with
  | nil => intro h; simp at h
  | cons w ws ih =>
    intro h
    cases i with
    | zero => simp
    | succ i =>
      simp only [List.set_cons_succ, List.flatten_cons, List.getD_cons_succ]
      refine (List.Perm.append_left w (ih (by simpa using h))).trans ?_
      rw [← List.append_assoc, ← List.append_assoc]
      exact List.Perm.append_right _ List.perm_append_comm
theorem flat_none {ws : List (List Addr)} (i : Nat) : (ws.set i []).flatten.Sublist ws.flatten := by
  induction ws generalizing i with
  | nil => simp
  | cons w ws ih =>
    cases i with
    | zero => simp
    | succ i => simpa using List.Sublist.append (List.Sublist.refl w) (ih i)
theorem flat_mem {ws : List (List Addr)} {i : Nat} {a : Addr} (h : a ∈ ws.getD i []) : a ∈ ws.flatten := by
  induction ws generalizing i with
  | nil => simp at h
  | cons w ws ih =>
    cases i with
    | zero => simp at h; simp [h]
    | succ i => simp at h; simp only [List.flatten_cons, List.mem_append]; exact .inr (ih (by simpa using h))
section
variable {K : PySem.W.Frag} {H H1 H' : Hp} {F F1 F' : Addr → Prop} {W W0 W1 W2 B : List Addr} {ws : List (List Addr)} {L : Lcs} {σ : St} {d : D} {v : V} {i : Nat}
theorem LReps.length (r : LReps K H F L σ ws) : L.length = σ.length ∧ L.length = ws.length := by
  induction r with
  | nil => exact ⟨rfl, rfl⟩
  | skip _ ih => exact ⟨by simp [ih.1], by simp [ih.2]⟩
  | cons _ _ ih => exact ⟨by simp [ih.1], by simp [ih.2]⟩
theorem LReps.muts (r : LReps K H F L σ ws) : ∀ a ∈ ws.flatten, IsMut H a := by
  induction r with
  | nil => intro a h; cases h
  | skip _ ih => intro a h; exact ih a (by simpa using h)
  | cons r _ ih => intro a h; rw [List.flatten_cons] at h; exact (List.mem_append.mp h).elim (r.muts a) (ih a)
theorem LReps.frame (r : LReps K H F L σ ws) (k : ∀ a o, H a = some o → a ∉ B → H' a = some o) (hm : ∀ a ∈ B, IsMut H a) (hd : ∀ a ∈ ws.flatten, a ∉ B) (hF : ∀ a, F a → a ∉ B) (mono : ∀ a, F a → F' a) :
    LReps K H' F' L σ ws := by
  induction r with
  | nil => exact .nil
  | skip _ ih => exact .skip (ih fun a m => hd a (by simpa using m))
  | cons r _ ih =>
    rw [List.flatten_cons] at hd
    exact .cons (r.frame k hm (fun a m => hd a (List.mem_append_left _ m)) hF mono) (ih fun a m => hd a (List.mem_append_right _ m))
/-- a slot's value -/
theorem LReps.get : ∀ {L : Lcs} {σ : St} {ws : List (List Addr)} {i : Nat} {d : D}, LReps K H F L σ ws → L[i]? = some (some d) → ∃ v, σ[i]? = some (some v) ∧ Reps K H F [d] [v] (ws.getD i []) ∧ i < ws.length
  | [], _, _, _, _, _, e => by simp at e
  | _ :: _, _, _, 0, _, .cons r _, e => by simp at e; subst e; exact ⟨_, rfl, r, by simp⟩
  | _ :: _, _, _, 0, _, .skip _, e => by simp at e
  | _ :: _, _, _, i + 1, _, .cons _ l, e => by obtain ⟨v, a, b, c⟩ := LReps.get (i := i) l (by simpa using e); exact ⟨v, by simpa using a, by simpa using b, by simpa using c⟩
  | _ :: _, _, _, i + 1, _, .skip l, e => by obtain ⟨v, a, b, c⟩ := LReps.get (i := i) l (by simpa using e); exact ⟨v, by simpa using a, by simpa using b, by simpa using c⟩
/-- a slot is forgotten; whatever is stored there -/
theorem LReps.drop : ∀ {L : Lcs} {σ : St} {ws : List (List Addr)} (i : Nat) (x : Option V), LReps K H F L σ ws → LReps K H F (L.set i none) (σ.set i x) (ws.set i [])
  | _, _, _, _, _, .nil => by simpa using LReps.nil
  | _, _, _, 0, _, .cons _ l => .skip l
  | _, _, _, 0, _, .skip l => .skip l
  | _, _, _, i + 1, x, .cons r l => .cons r (l.drop i x)
  | _, _, _, i + 1, x, .skip l => .skip (l.drop i x)
theorem LReps.forget : ∀ {L : Lcs} {σ : St} {ws : List (List Addr)} (i : Nat), LReps K H F L σ ws → LReps K H F (L.set i none) σ (ws.set i [])
  | _, _, _, _, .nil => by simpa using LReps.nil
  | _, _, _, 0, .cons _ l => .skip l
  | _, _, _, 0, .skip l => .skip l
  | _, _, _, i + 1, .cons r l => .cons r (l.forget i)
  | _, _, _, i + 1, .skip l => .skip (l.forget i)
/-- a slot is filled -/
theorem LReps.put : ∀ {L : Lcs} {σ : St} {ws : List (List Addr)} {i : Nat}, LReps K H F L σ ws → σ[i]? = some (some v) → Reps K H F [d] [v] W1 → LReps K H F (L.set i (some d)) σ (ws.set i W1)
  | [], _, _, _, .nil, e, _ => by simp at e
  | _ :: _, _, _, 0, .skip l, e, r => by simp at e; subst e; exact .cons r l
  | _ :: _, _, _, 0, .cons _ l, e, r => by simp at e; subst e; exact .cons r l
  | _ :: _, _, _, i + 1, .skip l, e, r => .skip (l.put (by simpa using e) r)
  | _ :: _, _, _, i + 1, .cons r0 l, e, r => .cons r0 (l.put (by simpa using e) r)
theorem LReps.store {L : Lcs} {σ : St} {ws : List (List Addr)} {i : Nat} (h : LReps K H F L σ ws) (r : Reps K H F [d] [v] W1) : LReps K H F (L.set i (some d)) (σ.set i (some v)) (ws.set i W1) := by
  by_cases hi : i < σ.length
  · have h1 := h.drop i (some v)
    have h2 := h1.put (i := i) (d := d) (v := v) (W1 := W1) (by simp [hi]) r
    simpa [List.set_set] using h2
  · have hl := h.length
    rw [List.set_eq_of_length_le (by omega), List.set_eq_of_length_le (by omega), List.set_eq_of_length_le (by omega)]
    exact h
theorem lasideL (r : LReps K H F L σ ws) (m : ∀ a ∈ W, IsMut H a) (w : Wf H F (ws.flatten ++ W)) (x : Ext H F W H1 F1 W1) : LReps K H1 F1 L σ ws := by
  have nd := List.nodup_append.mp w.nd
  exact r.frame x.keep m (fun a h z => nd.2.2 a h a z rfl) (fun a h z => w.dj a (List.mem_append_right _ z) h) x.mono
end
end Q

namespace Q
open PySem L2

/-! ## the small language and what it computes -/
inductive O1 where
  | neg | len | abs | int1 | isi (ts : List String) | isN | ntN | not | eqE | neE | isTr
inductive O2 where
  | add | sub | mul | fdiv | mod | pow | lt | le | gt | ge | eq | ne | ix | min | max | isin | notin | shl | shr | band

def lim : Nat := 16777216
def pow64 : Nat := 18446744073709551616

mutual
def D.toPy : D → Option PyData
  | .non => some .none
  | .bl b => some (.bool b)
  | .int i => some (.int i)
  | .str s => some (.str s)
  | .tup ds => match D.toPys ds with | some ps => some (.tuple ps) | none => none
  | .lst _ ds => match D.toPys ds with | some ps => some (.list ps) | none => none
  | .frz ds => match D.toPys ds with | some ps => some (.list ps) | none => none
  | .dic .. => none
def D.toPys : List D → Option (List PyData)
  | [] => some []
  | d :: ds => match d.toPy, D.toPys ds with | some p, some ps => some (p :: ps) | _, _ => none
end
def eqD : D → D → Option Bool
  | .int i, .int j => some (decide (i = j))
  | d, e => match d.toPy, e.toPy with
    | some p, some q => if SeqAt.shaped p && SeqAt.shaped q then some (PyData.eqv p q) else none
    | _, _ => none

def D.isT : D → String → Bool
  | .non, _ => false
  | .bl _, t => t == "bool" || t == "int"
  | .int _, t => t == "int"
  | .str _, t => t == "str"
  | .tup _, t => t == "tuple"
  | .lst _ _, t => t == "list"
  | .frz _, t => t == "list"
  | .dic .., t => t == "dict"
def tyOk (t : String) : Bool := t == "int" || t == "bool" || t == "str" || t == "list" || t == "tuple" || t == "dict"

def tru : D → Option Bool
  | .non => some false
  | .bl b => some b
  | .int i => some (i != 0)
  | .str _ => none
  | .tup ds => some (!ds.isEmpty)
  | .lst _ ds => some (!ds.isEmpty)
  | .frz ds => some (!ds.isEmpty)
  | _ => none

def D.els : D → Option (List D)
  | .tup ds => some ds
  | .lst _ ds => some ds
  | .frz ds => some ds
  | _ => none

def ap1 : O1 → D → Option D
  | .neg, .int i => some (.int (-i))
  | .len, .tup ds => some (.int ds.length)
  | .len, .lst _ ds => some (.int ds.length)
  | .len, .frz ds => some (.int ds.length)
  | .abs, .int i => some (.int (if i < 0 then -i else i))
  | .int1, .int i => some (.int i)
  | .int1, .bl b => some (.int (if b then 1 else 0))
  | .isi ts, d => some (.bl (ts.any d.isT))
  | .isN, .non => some (.bl true)
  | .isN, _ => some (.bl false)
  | .ntN, .non => some (.bl false)
  | .ntN, _ => some (.bl true)
  | .not, d => match tru d with | some b => some (.bl (!b)) | none => none
  | .eqE, d => match eqD d (.lst false []) with | some b => some (.bl b) | none => none
  | .neE, d => match eqD d (.lst false []) with | some b => some (.bl (!b)) | none => none
  | .isTr, .bl b => some (.bl b)
  | _, _ => none

def flatD : D → Bool
  | .non | .bl _ | .int _ | .str _ => true
  | _ => false
def eqF : D → D → Bool
  | .int i, .int j => decide (i = j)
  | .bl a, .bl b => a == b
  | .bl a, .int j => (if a then 1 else 0) == j
  | .int i, .bl b => i == (if b then 1 else 0)
  | .str x, .str y => decide (x = y)
  | .non, .non => true
  | _, _ => false

/-- x in a list of any data -/
def inD (x : D) (ds : List D) : Option Bool := match x.toPy, D.toPys ds with
  | some p, some ps => if SeqAt.shaped p && SeqAt.shaped (.list ps) then some (ps.any fun z => PyData.eqv z p) else none
  | _, _ => none
def ap2 : O2 → D → D → Option D
  | .add, .int i, .int j => some (.int (i + j))
  | .sub, .int i, .int j => some (.int (i - j))
  | .mul, .int i, .int j => if i.natAbs.log2 + j.natAbs.log2 < 1000000 then some (.int (i * j)) else none
  | .fdiv, .int i, .int j => if j ≠ 0 ∧ j.natAbs.log2 < 9000 then some (.int (i.fdiv j)) else none
  | .mod, .int i, .int j => if j ≠ 0 then some (.int (i.fmod j)) else none
  | .pow, .int i, .int j => if 0 ≤ j ∧ j ≤ 1000 ∧ i.natAbs < pow64 then some (.int (i ^ j.toNat)) else none
  | .lt, .int i, .int j => some (.bl (decide (i < j)))
  | .le, .int i, .int j => some (.bl (decide (i ≤ j)))
  | .gt, .int i, .int j => some (.bl (decide (j < i)))
  | .ge, .int i, .int j => some (.bl (decide (j ≤ i)))
  | .eq, d, e => match eqD d e with | some b => some (.bl b) | none => none
  | .ne, d, e => match eqD d e with | some b => some (.bl (!b)) | none => none
  | .ix, .tup ds, .int i => atI ds i
  | .ix, .lst _ ds, .int i => atI ds i
  | .ix, .frz ds, .int i => atI ds i
  | .min, .int i, .int j => some (.int (if j < i then j else i))
  | .max, .int i, .int j => some (.int (if j > i then j else i))
  | .isin, x, .tup ds => if flatD x && ds.all flatD then some (.bl (ds.any fun y => eqF y x)) else none
  | .isin, x, .lst _ ds => if flatD x && ds.all flatD then some (.bl (ds.any fun y => eqF y x)) else (match inD x ds with | some b => some (.bl b) | none => none)
  | .notin, x, .tup ds => if flatD x && ds.all flatD then some (.bl (!ds.any fun y => eqF y x)) else none
  | .notin, x, .lst _ ds => if flatD x && ds.all flatD then some (.bl (!ds.any fun y => eqF y x)) else none
  | .shl, .int i, .int j => if 0 ≤ j ∧ j ≤ 1000 ∧ i.natAbs < pow64 then some (.int (i * 2 ^ j.toNat)) else none
  | .shr, .int i, .int j => if 0 ≤ j then some (.int (i / 2 ^ j.toNat)) else none
  | .band, .int i, .int j => some (.int (Builtin.bitAnd i j))
  | _, _, _ => none

/-- constants of the module -/
abbrev CV := Int ⊕ Str
def cvD : CV → D
  | .inl i => .int i
  | .inr s => .str s
/-- pure expressions -/
inductive P where
  | var (i : Nat) | int (i : Int) | bl (b : Bool) | non | str (s : Str)
  | glob (x : Str)
  | o1 (o : O1) (a : P) | o2 (o : O2) (a b : P)
  | and (a b : P) | or (a b : P) | ife (c a b : P)

def P.root : P → Option Nat
  | .var i => some i
  | .o2 .ix a _ => a.root
  | _ => none

def pur (G : Str → Option D) : P → Lcs → Option D
  | .var i, L => match L[i]? with | some (some d) => some d | _ => none
  | .int i, _ => some (.int i)
  | .bl b, _ => some (.bl b)
  | .non, _ => some .non
  | .str s, _ => some (.str s)
  | .glob x, _ => G x
  | .o1 o a, L => match pur G a L with | some d => ap1 o d | none => none
  | .o2 o a b, L => match pur G a L, pur G b L with | some d, some e => ap2 o d e | _, _ => none
  | .and a b, L => match pur G a L with | some (.bl true) => pur G b L | some (.bl false) => some (.bl false) | _ => none
  | .or a b, L => match pur G a L with | some (.bl false) => pur G b L | some (.bl true) => some (.bl true) | _ => none
  | .ife c a b, L => match pur G c L with
    | some d => match tru d with | some true => pur G a L | some false => pur G b L | none => none
    | none => none

inductive Res (α : Type) where
  | ok (a : α) | exn (c : Str) (d : D) | bad
def Res.bind {α β : Type} (r : Res α) (f : α → Res β) : Res β :=
  match r with | .ok a => f a | .exn c d => .exn c d | .bad => .bad
def Res.of {α : Type} : Option α → Res α
  | some a => .ok a
  | none => .bad

def bool? : D → Res Bool
  | .bl b => .ok b
  | _ => .bad
/-- targets -/
inductive Tg where
  | nm (i : Nat) | tup (is : List Nat)

/-- what walks over things and gives one -/
inductive SqO where
  | list | tuple | sum | all | any | min | max | sorted

mutual
inductive E where
  | p (p : P) | mv (i : Nat)
  | o1 (o : O1) (a : E) | o2 (o : O2) (a b : E)
  | and (a b : E) | or (a b : E) | ife (c a b : E)
  | tup (es : Es) | lst (es : Es)
  | call (f : Str) (kw : List Str) (es : Es)
  | sq (o : SqO) (a : E)
  | lc (vs : List Nat) (tg : Tg) (s : Src) (cs : Es) (e : E)
  | cat (a b : E) | rep (a b : E) | slice (a : E) (lo hi : Es)
  | idx (a : E) (b : P) | lr1 (b : E) | lr2 (a b : E) | star (fl : List Bool) (es : Es)
  | popi (i : Nat) (path : List P) (k : Es)
  | dct | dce (i : Nat) (vs : List Nat) | catl (p : P) (qs : List P)
  | nev
inductive Es where
  | nil | cons (e : E) (es : Es)
inductive Src where
  | e (e : E) | rng (es : Es) | zip (a b : E) | enum (e : E)
end

/-- an argument: a slot's value lent, lent to be changed, or a value of its own -/
inductive Arg where
  | bor (i : Nat) | io (i : Nat) | val (d : D)

abbrev Fn := List D → Res (D × List (Option D))

structure EnvQ where
  G : Str → Option D            -- the module's constants
  call : Str → Fn               -- the defs
  md : Str → List Bool          -- which parameters are changed
  ar : Str → List Str           -- the parameters' names
  N : Nat                       -- how long a while may go

/-- bind a target -/
def Tg.set : Tg → D → Lcs → Option Lcs
  | .nm i, d, L => some (L.set i (some d))
  | .tup is, .tup ds, L => if is.length = ds.length then some ((is.zip ds).foldl (fun L p => L.set p.1 (some p.2)) L) else none
  | _, _, _ => none

/-- a slot's value is lent for good -/
def fzAt (L : Lcs) (i : Nat) : Lcs := match L[i]? with | some (some d) => L.set i (some d.fz) | _ => L

/-- a pure expression's value for keeps -/
def keepP (G : Str → Option D) (p : P) (L : Lcs) : Res (D × Lcs) :=
  match pur G p L with
  | none => .bad
  | some d => if d.noOwn then .ok (d, L) else match p.root with
    | some i => .ok (d.fz, fzAt L i)
    | none => .bad

/-- lists made anew -/
def ints? : List D → Option (List Int)
  | [] => some []
  | .int i :: r => match ints? r with | some is => some (i :: is) | none => none
  | _ => none
def bools? : List D → Option (List Bool)
  | [] => some []
  | .bl i :: r => match bools? r with | some is => some (i :: is) | none => none
  | _ => none

def ins1 (x : Int) : List Int → List Int
  | [] => [x]
  | y :: ys => if x ≤ y then x :: y :: ys else y :: ins1 x ys
def isort : List Int → List Int
  | [] => []
  | x :: xs => ins1 x (isort xs)
def findD (x : D) : Nat → List D → Option Nat
  | _, [] => none
  | k, y :: ys => if eqF y x then some k else findD x (k + 1) ys
/-- x.index(y), all flat -/
def idxRun (ds : List D) (x : D) : Option D := if flatD x && ds.all flatD then (match findD x 0 ds with | some j => some (.int (j : Int)) | none => none) else none
/-- a display with stars -/
def spliceD : List Bool → List D → Option (List D)
  | [], [] => some []
  | false :: fl, d :: ds => match spliceD fl ds with | some r => some (d :: r) | none => none
  | true :: fl, d :: ds => match d.els, spliceD fl ds with | some xs, some r => some (xs ++ r) | _, _ => none
  | _, _ => none
def starRun (fl : List Bool) (ds : List D) : Option D := match spliceD fl ds with
  | some r => if r.length ≤ 1000000 then some (.lst true r) else none
  | none => none
def apS : SqO → D → Option D
  | .list, d => match d.els with | some ds => some (.lst true ds) | none => none
  | .tuple, d => match d.els with | some ds => some (.tup ds) | none => none
  | .sum, .lst _ ds => match ints? ds with | some is => some (.int is.sum) | none => none
  | .all, .lst _ ds => match bools? ds with | some bs => some (.bl (bs.all id)) | none => none
  | .any, .lst _ ds => match bools? ds with | some bs => some (.bl (bs.any id)) | none => none
  | .sorted, d => match d.els with
    | some ds => (match ints? ds with | some is => some (.lst true ((isort is).map D.int)) | none => none)
    | none => none
  | _, _ => none

/-- the slots of a comprehension's names forgotten -/
def wipeL (L : Lcs) : List Nat → Lcs
  | [] => L
  | v :: vs => (wipeL L vs).set v none
/-- a comprehension's turns -/
def lcRun (tg : Tg) (vs : List Nat) (cond : Lcs → Res (Bool × Lcs)) (elt : Lcs → Res (D × Lcs)) : List D → Lcs → Res (List D × Lcs)
  | [], L => .ok ([], L)
  | x :: xs, L =>
    match tg.set x (wipeL L vs) with
    | none => .bad
    | some L1 => match cond L1 with
      | .ok (true, L2) => (match elt L2 with
        | .ok (d, L3) => (match lcRun tg vs cond elt xs L3 with
          | .ok (ds, L4) => .ok (d :: ds, L4)
          | _ => .bad)
        | _ => .bad)
      | .ok (false, L2) => lcRun tg vs cond elt xs L2
      | _ => .bad

/-- behind a comprehension: its names stand as before -/
def was (L0 : Lcs) (i : Nat) : Option D := match L0[i]? with | some (some d) => if d.noOwn then some d else none | _ => none
def resetTo (L0 L : Lcs) : List Nat → Lcs
  | [] => L
  | v :: vs => resetTo L0 (L.set v (was L0 v)) vs

def zip2D : List D → List D → List D
  | x :: xs, y :: ys => .tup [x, y] :: zip2D xs ys
  | _, _ => []
def enumD : Int → List D → List D
  | _, [] => []
  | k, x :: xs => .tup [.int k, x] :: enumD (k + 1) xs
def rngD (lo : Int) : Nat → List D
  | 0 => []
  | n + 1 => .int lo :: rngD (lo + 1) n

/-- the arguments' values at the call: what is lent is frozen, what is changed is taken out -/
def argVals : List Arg → Lcs → Option (List D × Lcs)
  | [], L => some ([], L)
  | .val d :: r, L => match argVals r L with | some (ds, L') => some (d.fz :: ds, L') | none => none
  | .bor i :: r, L => match L[i]?, argVals r L with | some (some d), some (ds, L') => some (d.fz :: ds, L') | _, _ => none
  | .io i :: r, L => match L[i]? with
    | some (some d) => match argVals r (L.set i none) with | some (ds, L') => some (d :: ds, L') | none => none
    | _ => none
/-- what was lent, still there behind the taking out -/
def lentOk (as : List Arg) (L : Lcs) : Bool := as.all fun | .bor i => (match L[i]? with | some (some _) => true | _ => false) | _ => true
def putBack : List Arg → List (Option D) → Lcs → Option Lcs
  | [], [], L => some L
  | .io i :: r, o :: os, L => putBack r os (L.set i o)
  | .io _ :: _, [], _ => none
  | _ :: r, os, L => putBack r os L
  | [], _ :: _, _ => none
def fzLent : List Arg → Lcs → Lcs
  | [], L => L
  | .bor i :: r, L => fzLent r (fzAt L i)
  | _ :: r, L => fzLent r L
def outNoSh : List (Option D) → Bool
  | [] => true
  | none :: r => outNoSh r
  | some d :: r => d.noSh && outNoSh r

/-- the parameters' order out of the written one -/
def permL {α : Type} (idx : List Nat) (xs : List α) : List α := idx.filterMap (xs[·]?)
def idxK (ks ps : List Str) : List Nat := ps.map fun p => ks.idxOf p
/-- the same defs, called by names -/
def EnvQ.kw (V : EnvQ) (ks : List Str) : EnvQ := { V with call := fun f ds => V.call f (permL (idxK ks (V.ar f)) ds), md := fun _ => [] }

def callRun (V : EnvQ) (f : Str) (as : List Arg) (L : Lcs) : Res (D × Lcs) :=
  match argVals as L with
  | none => .bad
  | some (ds, L1) => if lentOk as L1 then
      match V.call f ds with
      | .ok (d, os) => if d.noSh && outNoSh os then
          (match putBack as os L1 with | some L2 => .ok (d, L2) | none => .bad)
        else (match putBack as os (fzLent as L1) with | some L2 => .ok (d, L2) | none => .bad)
      | .exn c x => .exn c x
      | .bad => .bad
    else .bad

/-- a list at the end of a path, changed -/
def updPath (f : List D → Option (List D)) : D → List Int → Option D
  | .lst true ds, [] => match f ds with | some es => some (.lst true es) | none => none
  | .lst true ds, i :: r => match ixN ds.length i with
    | some j => match ds[j]? with
      | some d => match updPath f d r with | some d' => some (.lst true (ds.set j d')) | none => none
      | none => none
    | none => none
  | _, _ => none
def atPath : D → List Int → Option D
  | d, [] => some d
  | .lst true ds, i :: r => match atI ds i with | some d => atPath d r | none => none
  | _, _ => none
def pathInts (G : Str → Option D) (L : Lcs) : List P → Option (List Int)
  | [] => some []
  | p :: r => match pur G p L, pathInts G L r with | some (.int i), some is => some (i :: is) | _, _ => none

/-- to be read at once: a pure expression's value lent -/
def rdW (V : EnvQ) (e : E) (f : Lcs → Res (D × Lcs)) (L : Lcs) : Res (D × Lcs) :=
  match e with
  | .p p => match pur V.G p L with | some d => .ok (d, L) | none => .bad
  | _ => f L
/-- a list or tuple to be read through at once -/
def seqW (V : EnvQ) (e : E) (f : Lcs → Res (D × Lcs)) (L : Lcs) : Res (D × Lcs) :=
  match e with
  | .p p => match pur V.G p L with
    | some d => match d.els with
      | some ds => if D.noOwns ds then .ok (d, L) else f L
      | none => .bad
    | none => .bad
  | _ => f L
/-- the things to be walked over: nobody changes them any more -/
def seqF (r : Res (D × Lcs)) : Res (List D × Lcs) :=
  match r with
  | .ok (d, L1) => match d.fz.els with | some ds => .ok (ds, L1) | none => .bad
  | .exn c x => .exn c x
  | .bad => .bad
def argW (m : Bool) (e : E) (f : Lcs → Res (D × Lcs)) (L : Lcs) : Res (Arg × Lcs) :=
  match m, e with
  | true, .p (.var i) => (match L[i]? with | some (some _) => .ok (Arg.io i, L) | _ => .bad)
  | true, _ => .bad
  | false, .p (.var i) => (match L[i]? with | some (some _) => .ok (Arg.bor i, L) | _ => .bad)
  | false, _ => (f L).bind fun (d, L1) => .ok (Arg.val d, L1)
def rngRun (ds : List D) : Option (List D) :=
  match ds with
  | [.int j] => if -1000000 < j ∧ j < 1000000 then some (rngD 0 j.toNat) else none
  | [.int i, .int j] => if -1000000 < i ∧ i < 1000000 ∧ -1000000 < j ∧ j < 1000000 then some (rngD i (j - i).toNat) else none
  | _ => none
def zipRun : D → D → Option (List D)
  | .lst _ xs, .lst _ ys => some (zip2D xs ys)
  | .tup xs, .tup ys => some (zip2D xs ys)
  | _, _ => none
def enumRun : D → Option (List D)
  | .lst _ xs => some (enumD 0 xs)
  | .tup xs => some (enumD 0 xs)
  | _ => none
def catRun : D → D → Option D
  | .lst _ xs, .lst _ ys => if xs.length + ys.length ≤ 1000000 then some (.lst true (xs ++ ys)) else none
  | .int i, .int j => some (.int (i + j))
  | _, _ => none
def repRun (d e : D) : Option D :=
  match d, e with
  | .lst _ ds, .int k => if D.noOwns ds && decide (ds.length * k.toNat ≤ 1000000) && decide (-1000000 ≤ k) && decide (k ≤ 1000000) then some (.lst true (List.replicate k.toNat ds).flatten) else none
  | _, _ => none

/-- a slice's ends -/
def posOf (G : Str → Option D) : Es → Lcs → Option (Option Int)
  | .nil, _ => some none
  | .cons (.p p) .nil, L => (match pur G p L with | some (.int i) => some (some i) | _ => none)
  | _, _ => none
def cutP (ds : List D) (lo hi : Option Int) : List D := (ds.drop (HT.sIx ds.length 0 lo)).take (HT.sIx ds.length ds.length hi - HT.sIx ds.length 0 lo)
def cutRun (lo hi : Option Int) : D → Option D
  | .lst _ ds => some (.lst true (cutP ds lo hi))
  | .frz ds => some (.lst true (cutP ds lo hi))
  | .tup ds => if HT.sIx ds.length 0 lo = 0 ∧ HT.sIx ds.length ds.length hi = ds.length then none else some (.tup (cutP ds lo hi))
  | _ => none
def cutO (G : Str → Option D) (lo hi : Es) (L : Lcs) (d : D) : Option D :=
  match posOf G lo L, posOf G hi L with
  | some l, some h => cutRun l h d
  | _, _ => none
/-- one thing taken out of an own list -/
def popRun (G : Str → Option D) (i : Nat) (path : List P) (j : Int) (L : Lcs) : Option (D × Lcs) :=
  match L[i]?, pathInts G L path with
  | some (some d), some is => (match atPath d is with
    | some (.lst true ds) => (match ixN ds.length j with
      | some k => (match ds[k]?, updPath (fun ds => some (ds.eraseIdx k)) d is with
        | some x, some d' => some (x, L.set i (some d'))
        | _, _ => none)
      | none => none)
    | _ => none)
  | _, _ => none
def lstAt (L : Lcs) (i : Nat) : Option Unit := match L[i]? with | some (some (.lst true _)) => some () | _ => none
def intOf : D → Option Int
  | .int i => some i
  | _ => none
def isP : E → Bool
  | .p _ => true
  | _ => false
def purE (G : Str → Option D) : E → Lcs → Option D
  | .p p, L => pur G p L
  | _, _ => none

/-- an empty dict, copied by a comprehension -/
def dceRun (i : Nat) (L : Lcs) : Option (D × Lcs) := match L[i]? with
  | some (some (.dic _ [] [])) => some (.dic true [] [], L)
  | _ => none
/-- a list of plain things, read, and some more behind it -/
def pursO (G : Str → Option D) : List P → Lcs → Option (List D)
  | [], _ => some []
  | q :: qs, L => match pur G q L, pursO G qs L with | some d, some ds => some (d :: ds) | _, _ => none
def catlRun (G : Str → Option D) (p : P) (qs : List P) (L : Lcs) : Option (D × Lcs) := match pur G p L, pursO G qs L with
  | some (.lst _ xs), some ds => if D.noOwns xs && ds.all flatD && decide (xs.length + ds.length ≤ 1000000) then some (.lst true (xs ++ ds), L) else none
  | _, _ => none
/-- no error leaves -/
def noX {α : Type} : Res α → Res α
  | .exn _ _ => .bad
  | r => r
mutual
def den (V : EnvQ) : E → Lcs → Res (D × Lcs)
  | .p p, L => keepP V.G p L
  | .mv i, L => match L[i]? with | some (some d) => .ok (d, L.set i none) | _ => .bad
  | .o1 o a, L => (rdW V a (fun L => den V a L) L).bind fun r => (Res.of (ap1 o r.1)).bind fun x => .ok (x, r.2)
  | .o2 o a b, L => (den V a L).bind fun r => (rdW V b (fun L => den V b L) r.2).bind fun q => (Res.of (ap2 o r.1 q.1)).bind fun x => .ok (x, q.2)
  | .and a b, L => (rdW V a (fun L => den V a L) L).bind fun r => (bool? r.1).bind fun k => if k then (rdW V b (fun L => den V b L) r.2).bind fun q => (bool? q.1).bind fun k2 => .ok (.bl k2, q.2) else .ok (.bl false, r.2)
  | .or a b, L => (rdW V a (fun L => den V a L) L).bind fun r => (bool? r.1).bind fun k => if k then .ok (.bl true, r.2) else (rdW V b (fun L => den V b L) r.2).bind fun q => (bool? q.1).bind fun k2 => .ok (.bl k2, q.2)
  | .ife c a b, L => (rdW V c (fun L => den V c L) L).bind fun r => (Res.of (tru r.1)).bind fun k => if k then den V a r.2 else den V b r.2
  | .tup es, L => (dens V es L).bind fun r => .ok (.tup r.1, r.2)
  | .lst es, L => (dens V es L).bind fun r => .ok (.lst true r.1, r.2)
  | .call f kw es, L => match kw with
    | [] => (args V (V.md f) es L).bind fun r => if r.1.length = (V.ar f).length then callRun V f r.1 r.2 else .bad
    | k :: ks => if V.md f = [] then (args V [] es L).bind fun r => if r.1.length = (V.ar f).length ∧ (k :: ks).length = r.1.length ∧ ((V.ar f).all fun p => decide (p ∈ k :: ks)) = true then callRun (V.kw (k :: ks)) f r.1 r.2 else .bad else .bad
  | .sq o a, L => (seqW V a (fun L => den V a L) L).bind fun r => (Res.of (apS o r.1)).bind fun x => .ok (x, r.2)
  | .lc vs tg s cs e, L => (src V s L).bind fun r =>
      (lcRun tg vs (fun L => conds V cs L) (fun L => den V e L) r.1 r.2).bind fun q => .ok (.lst true q.1, resetTo r.2 (wipeL q.2 vs) vs)
  | .cat a b, L => (den V a L).bind fun r => (den V b r.2).bind fun q => (Res.of (catRun r.1 q.1)).bind fun x => .ok (x, q.2)
  | .rep a b, L => (den V a L).bind fun r => (rdW V b (fun L => den V b L) r.2).bind fun q => (Res.of (repRun r.1 q.1)).bind fun x => .ok (x, q.2)
  | .slice a lo hi, L => (seqW V a (fun L => den V a L) L).bind fun r => (Res.of (cutO V.G lo hi r.2 r.1)).bind fun x => .ok (x, r.2)
  | .idx a b, L => (seqW V a (fun L => den V a L) L).bind fun r => (Res.of r.1.els).bind fun ds => (Res.of (pur V.G b r.2)).bind fun y => (Res.of (idxRun ds y)).bind fun x => .ok (x, r.2)
  | .lr1 b, L => (den V b L).bind fun q => (Res.of (rngRun [q.1])).bind fun x => .ok (.lst true x, q.2)
  | .lr2 a b, L => (den V a L).bind fun r => (den V b r.2).bind fun q => (Res.of (rngRun [r.1, q.1])).bind fun x => .ok (.lst true x, q.2)
  | .star fl es, L => (noX (dens V es L)).bind fun r => (Res.of (starRun fl r.1)).bind fun x => .ok (x, r.2)
  | .popi i path k, L => match k with
    | .nil => Res.of (popRun V.G i path (-1) L)
    | .cons e es => match path, es with
      | [], .nil => (Res.of (lstAt L i)).bind fun _ => (den V e L).bind fun r => (Res.of (intOf r.1)).bind fun j => Res.of (popRun V.G i [] j r.2)
      | p :: ps, .nil => (Res.of (purE V.G e L)).bind fun d => (Res.of (intOf d)).bind fun j => Res.of (popRun V.G i (p :: ps) j L)
      | _, _ => .bad
  | .dct, L => .ok (.dic true [] [], L)
  | .dce i _, L => Res.of (dceRun i L)
  | .catl p qs, L => Res.of (catlRun V.G p qs L)
  | .nev, _ => .bad
def dens (V : EnvQ) : Es → Lcs → Res (List D × Lcs)
  | .nil, L => .ok ([], L)
  | .cons e es, L => (den V e L).bind fun r => (dens V es r.2).bind fun q => .ok (r.1 :: q.1, q.2)
def args (V : EnvQ) : List Bool → Es → Lcs → Res (List Arg × Lcs)
  | _, .nil, L => .ok ([], L)
  | ms, .cons e es, L => (argW (ms.headD false) e (fun L => den V e L) L).bind fun r => (args V ms.tail es r.2).bind fun q => .ok (r.1 :: q.1, q.2)
def src (V : EnvQ) : Src → Lcs → Res (List D × Lcs)
  | .e e, L => seqF (den V e L)
  | .rng es, L => (dens V es L).bind fun r => (Res.of (rngRun r.1)).bind fun x => .ok (x, r.2)
  | .zip a b, L => (den V a L).bind fun r => (den V b r.2).bind fun q => (Res.of (zipRun r.1.fz q.1.fz)).bind fun x => .ok (x, q.2)
  | .enum e, L => (den V e L).bind fun r => (Res.of (enumRun r.1.fz)).bind fun x => .ok (x, r.2)
def conds (V : EnvQ) : Es → Lcs → Res (Bool × Lcs)
  | .nil, L => .ok (true, L)
  | .cons e es, L => match es with
    | .nil => (rdW V e (fun L => den V e L) L).bind fun r => (Res.of (tru r.1)).bind fun b => .ok (b, r.2)
    | _ => .bad
end
/-! ### the equations -/
section
variable (V : EnvQ) (L : Lcs)
theorem rdW_p (p : P) (f : Lcs → Res (D × Lcs)) : rdW V (.p p) f L = match pur V.G p L with | some d => .ok (d, L) | none => .bad := rfl
theorem den_p (p : P) : den V (.p p) L = keepP V.G p L := by rw [den]
theorem den_mv (i : Nat) : den V (.mv i) L = match L[i]? with | some (some d) => .ok (d, L.set i none) | _ => .bad := by rw [den]
theorem den_o1 (o : O1) (a : E) : den V (.o1 o a) L = (rdW V a (fun L => den V a L) L).bind fun r => (Res.of (ap1 o r.1)).bind fun x => .ok (x, r.2) := by rw [den]
theorem den_o2 (o : O2) (a b : E) : den V (.o2 o a b) L = (den V a L).bind fun r => (rdW V b (fun L => den V b L) r.2).bind fun q => (Res.of (ap2 o r.1 q.1)).bind fun x => .ok (x, q.2) := by rw [den]
theorem den_and (a b : E) : den V (.and a b) L = (rdW V a (fun L => den V a L) L).bind fun r => (bool? r.1).bind fun k => if k then (rdW V b (fun L => den V b L) r.2).bind fun q => (bool? q.1).bind fun k2 => .ok (.bl k2, q.2) else .ok (.bl false, r.2) := by rw [den]
theorem den_or (a b : E) : den V (.or a b) L = (rdW V a (fun L => den V a L) L).bind fun r => (bool? r.1).bind fun k => if k then .ok (.bl true, r.2) else (rdW V b (fun L => den V b L) r.2).bind fun q => (bool? q.1).bind fun k2 => .ok (.bl k2, q.2) := by rw [den]
theorem den_ife (c a b : E) : den V (.ife c a b) L = (rdW V c (fun L => den V c L) L).bind fun r => (Res.of (tru r.1)).bind fun k => if k then den V a r.2 else den V b r.2 := by rw [den]
theorem den_tup (es : Es) : den V (.tup es) L = (dens V es L).bind fun r => .ok (.tup r.1, r.2) := by rw [den]
theorem den_lst (es : Es) : den V (.lst es) L = (dens V es L).bind fun r => .ok (.lst true r.1, r.2) := by rw [den]
theorem den_call (f : Str) (es : Es) : den V (.call f [] es) L = (args V (V.md f) es L).bind fun r => if r.1.length = (V.ar f).length then callRun V f r.1 r.2 else .bad := by rw [den]
theorem den_callK (f : Str) (k : Str) (ks : List Str) (es : Es) : den V (.call f (k :: ks) es) L = if V.md f = [] then (args V [] es L).bind fun r => if r.1.length = (V.ar f).length ∧ (k :: ks).length = r.1.length ∧ ((V.ar f).all fun p => decide (p ∈ k :: ks)) = true then callRun (V.kw (k :: ks)) f r.1 r.2 else .bad else .bad := by rw [den]
theorem den_sq (o : SqO) (a : E) : den V (.sq o a) L = (seqW V a (fun L => den V a L) L).bind fun r => (Res.of (apS o r.1)).bind fun x => .ok (x, r.2) := by rw [den]
theorem den_lc (vs : List Nat) (tg : Tg) (s : Src) (cs : Es) (e : E) : den V (.lc vs tg s cs e) L = (src V s L).bind fun r =>
      (lcRun tg vs (fun L => conds V cs L) (fun L => den V e L) r.1 r.2).bind fun q => .ok (.lst true q.1, resetTo r.2 (wipeL q.2 vs) vs) := by rw [den]
theorem den_cat (a b : E) : den V (.cat a b) L = (den V a L).bind fun r => (den V b r.2).bind fun q => (Res.of (catRun r.1 q.1)).bind fun x => .ok (x, q.2) := by rw [den]
theorem den_rep (a b : E) : den V (.rep a b) L = (den V a L).bind fun r => (rdW V b (fun L => den V b L) r.2).bind fun q => (Res.of (repRun r.1 q.1)).bind fun x => .ok (x, q.2) := by rw [den]
theorem den_slice (a : E) (lo hi : Es) : den V (.slice a lo hi) L = (seqW V a (fun L => den V a L) L).bind fun r => (Res.of (cutO V.G lo hi r.2 r.1)).bind fun x => .ok (x, r.2) := by rw [den]
theorem den_pop0 (i : Nat) (path : List P) : den V (.popi i path .nil) L = Res.of (popRun V.G i path (-1) L) := by rw [den]
theorem den_pop1 (i : Nat) (e : E) : den V (.popi i [] (.cons e .nil)) L = (Res.of (lstAt L i)).bind fun _ => (den V e L).bind fun r => (Res.of (intOf r.1)).bind fun j => Res.of (popRun V.G i [] j r.2) := by rw [den]
theorem den_pop2 (i : Nat) (p : P) (ps : List P) (e : E) : den V (.popi i (p :: ps) (.cons e .nil)) L = (Res.of (purE V.G e L)).bind fun d => (Res.of (intOf d)).bind fun j => Res.of (popRun V.G i (p :: ps) j L) := by rw [den]
theorem den_dct : den V .dct L = .ok (.dic true [] [], L) := by rw [den]
theorem den_dce (i : Nat) (vs : List Nat) : den V (.dce i vs) L = Res.of (dceRun i L) := by rw [den]
theorem den_catl (p : P) (qs : List P) : den V (.catl p qs) L = Res.of (catlRun V.G p qs L) := by rw [den]
theorem den_nev : den V .nev L = .bad := by rw [den]
theorem den_idx (a : E) (b : P) : den V (.idx a b) L = (seqW V a (fun L => den V a L) L).bind fun r => (Res.of r.1.els).bind fun ds => (Res.of (pur V.G b r.2)).bind fun y => (Res.of (idxRun ds y)).bind fun x => .ok (x, r.2) := by rw [den]
theorem den_lr1 (b : E) : den V (.lr1 b) L = (den V b L).bind fun q => (Res.of (rngRun [q.1])).bind fun x => .ok (.lst true x, q.2) := by rw [den]
theorem den_lr2 (a b : E) : den V (.lr2 a b) L = (den V a L).bind fun r => (den V b r.2).bind fun q => (Res.of (rngRun [r.1, q.1])).bind fun x => .ok (.lst true x, q.2) := by rw [den]
theorem den_star (fl : List Bool) (es : Es) : den V (.star fl es) L = (noX (dens V es L)).bind fun r => (Res.of (starRun fl r.1)).bind fun x => .ok (x, r.2) := by rw [den]
theorem dens_nil : dens V .nil L = .ok ([], L) := by rw [dens]
theorem dens_cons (e : E) (es : Es) : dens V (.cons e es) L = (den V e L).bind fun r => (dens V es r.2).bind fun q => .ok (r.1 :: q.1, q.2) := by rw [dens]
theorem args_nil (ms : List Bool) : args V ms .nil L = .ok ([], L) := by rw [args]
theorem args_cons (ms : List Bool) (e : E) (es : Es) : args V ms (.cons e es) L = (argW (ms.headD false) e (fun L => den V e L) L).bind fun r => (args V ms.tail es r.2).bind fun q => .ok (r.1 :: q.1, q.2) := by rw [args]
theorem src_e (e : E) : src V (.e e) L = seqF (den V e L) := by rw [src]
theorem src_rng (es : Es) : src V (.rng es) L = (dens V es L).bind fun r => (Res.of (rngRun r.1)).bind fun x => .ok (x, r.2) := by rw [src]
theorem src_zip (a b : E) : src V (.zip a b) L = (den V a L).bind fun r => (den V b r.2).bind fun q => (Res.of (zipRun r.1.fz q.1.fz)).bind fun x => .ok (x, q.2) := by rw [src]
theorem src_enum (e : E) : src V (.enum e) L = (den V e L).bind fun r => (Res.of (enumRun r.1.fz)).bind fun x => .ok (x, r.2) := by rw [src]
theorem conds_nil : conds V .nil L = .ok (true, L) := by rw [conds]
theorem conds_one (e : E) : conds V (.cons e .nil) L = (rdW V e (fun L => den V e L) L).bind fun r => (Res.of (tru r.1)).bind fun b => .ok (b, r.2) := by rw [conds]
end
end Q

namespace Q
open PySem L2 PySem.Spec

/-! ## the weakest readings -/
def tW (X : Cx) (e : Expr) : TE := fun σ H Q => ∀ pins s, Inv X pins σ H s → wpAny (model X.prog X.w) X.A (eval e X.env) (EP X pins σ Q) X.xe s
def ttW (X : Cx) (e : Expr) : TT := fun σ H Q => ∀ pins s, Inv X pins σ H s → wpAny (model X.prog X.w) X.A (isTrue e X.env (eval e X.env)) (TP X pins σ Q) X.xe s
def taW (X : Cx) (es : List Expr) : TA := fun σ H Q => ∀ pos pins s, Inv X pins σ H s → wpAny (model X.prog X.w) X.A (spliced (backTo pos (starEach es X.env))) (AP X pins σ Q) X.xe s
theorem peW {X : Cx} {e : Expr} : PE X e (tW X e) := ⟨fun pins s σ H Q I h => h pins s I⟩
theorem ptW {X : Cx} {e : Expr} : PT X e (ttW X e) := ⟨fun pins s σ H Q I h => h pins s I⟩
theorem paW {X : Cx} {es : List Expr} : PA X es (taW X es) := ⟨fun pos pins s σ H Q I h => h pos pins s I⟩
theorem toW {X : Cx} {e : Expr} {t : TE} (h : PE X e t) {σ : St} {H : Hp} {Q : VK} (q : t σ H Q) : tW X e σ H Q := fun pins s I => h.run pins s σ H Q I q
theorem toTW {X : Cx} {e : Expr} {t : TT} (h : PT X e t) {σ : St} {H : Hp} {Q : Bool → Hp → Prop} (q : t σ H Q) : ttW X e σ H Q := fun pins s I => h.run pins s σ H Q I q
theorem toAW {X : Cx} {es : List Expr} {t : TA} (h : PA X es t) {σ : St} {H : Hp} {Q : List V → Hp → Prop} (q : t σ H Q) : taW X es σ H Q := fun pos pins s I => h.run pos pins s σ H Q I q
theorem tW.mono {X : Cx} {e : Expr} {σ : St} {H : Hp} {Q Q' : VK} (h : tW X e σ H Q) (m : ∀ v H, Q v H → Q' v H) : tW X e σ H Q' := fun pins s I =>
  thn (h pins s I) fun _ _ ⟨v, H', I', r, q⟩ => ⟨v, H', I', r, m _ _ q⟩
theorem ttW.mono {X : Cx} {e : Expr} {σ : St} {H : Hp} {Q Q' : Bool → Hp → Prop} (h : ttW X e σ H Q) (m : ∀ v H, Q v H → Q' v H) : ttW X e σ H Q' := fun pins s I =>
  thn (h pins s I) fun _ _ ⟨H', I', q⟩ => ⟨H', I', m _ _ q⟩
theorem taW.mono {X : Cx} {es : List Expr} {σ : St} {H : Hp} {Q Q' : List V → Hp → Prop} (h : taW X es σ H Q) (m : ∀ v H, Q v H → Q' v H) : taW X es σ H Q' := fun pos pins s I =>
  thn (h pos pins s I) fun _ _ ⟨v, H', I', r, q⟩ => ⟨v, H', I', r, m _ _ q⟩

/-! ## the context -/
structure Gam where
  N : List Str
  sn : List (Str × NameKind)
  wr : List Str
  fs : List Str
  bs : List Str
  gs : List Str
  ks : List (Str × List Str)

/-- how an exception lies: its class by its global name, the one field -/
def ExOk (K : PySem.W.Frag) (mg : Str → Option Value) (H : Hp) (F : Addr → Prop) (c : Str) (x : D) (cls : Value) (d : Option Addr) : Prop :=
  ∃ (C dx : Addr) (fld : Str) (v : V), mg c = some (.ref C) ∧ cls = .ref C ∧ d = some dx ∧ H dx = some (.xd [(fld, v)]) ∧ Reps K H F [x] [v] []

def ioPick {α : Type} : List Bool → List α → List α
  | true :: ms, a :: as => a :: ioPick ms as
  | false :: ms, _ :: as => ioPick ms as
  | _, _ => []
def ioNone : List Bool → List D → Bool
  | true :: ms, _ :: as => ioNone ms as
  | false :: ms, a :: as => a.noOwn && ioNone ms as
  | [], as => D.noOwns as
  | _, [] => true
inductive OReps (K : PySem.W.Frag) (H : Hp) (F : Addr → Prop) : List (Option D) → List V → List Addr → Prop
  | nil : OReps K H F [] [] []
  | skip {os vs W v} : OReps K H F os vs W → OReps K H F (none :: os) (v :: vs) W
  | cons {d v os vs W1 W2} : Reps K H F [d] [v] W1 → OReps K H F os vs W2 → OReps K H F (some d :: os) (v :: vs) (W1 ++ W2)

/-- a def's promise: it does what Z.call says -/
def SpF (K : PySem.W.Frag) (mg : Str → Option Value) (Z : EnvQ) (f : Str) : Sp := fun vs H Q E => ∃ (ds : List D) (F : Addr → Prop) (W : List Addr),
  vs.length = (Z.ar f).length ∧ Reps K H F ds vs W ∧ Wf H F W ∧ ioNone (Z.md f) ds = true ∧
  match Z.call f ds with
  | .ok (d, os) => ∀ v H' F' W1 W2, Reps K H' F' [d] [v] W1 → OReps K H' F' os (ioPick (Z.md f) vs) W2 → Wf H' F' (W1 ++ W2) → Ext H F W H' F' (W1 ++ W2) → Q v H'
  | .exn c x => ∀ cls d H' F', ExOk K mg H' F' c x cls d → Ext H F W H' F' [] → E cls d H'
  | .bad => False

structure CallOk (X : Cx) (Z : EnvQ) (EX : XK) (kl : List (Str × List Str)) (f : Str) : Prop where
  ex : ∃ (a : Addr) (fd : FuncData) (k : Nat), X.mg f = some (.ref a) ∧ PySem.W.keepIn X.K (.ref a) = true ∧
    FnOk X.prog X.w X.K X.mg X.base (L2.CX X.prog X.w) k a fd (Z.ar f) (SpF X.K X.mg Z f) ∧ Room k X.A ∧ L2.Binds X.K fd (Z.ar f) [] ∧
    ∀ ks, (f, ks) ∈ kl → KBn X.K fd (Z.ar f) 0 ks (fun us ws => permL (idxK ks (Z.ar f)) (us ++ ws)) (fun us ws => permL (idxK ks (Z.ar f)) (us ++ ws))
  pass : Passes (L2.CX X.prog X.w) X EX
  ne : f ≠ "__debug__"

structure Good (X : Cx) (Z : EnvQ) (Γ : Gam) (EX : XK) : Prop where
  calm : X.calm = true
  kind : X.env.scope.kind = .function
  N : X.N = Γ.N
  nd : Γ.N.Nodup
  sn : X.env.scope.names = Γ.sn
  wr : ∀ x ∈ Γ.wr, Loc X.env.scope x ∧ (X.fn x = true ∨ X.env.scope.names.lookup x = some .local)
  bs : ∀ x ∈ Γ.bs, X.mg x = none
  gs : ∀ x ∈ Γ.gs, ∀ d, Z.G x = some d → ∃ v u, X.mg x = some u ∧ RelV v u ∧ ∀ H F, Reps X.K H F [d] [v] []
  un : X.A.units + 65 < cLine
  ca : ∀ f ∈ Γ.fs, CallOk X Z EX Γ.ks f

/-! ## the checks of the text -/
def notStar : Expr → Bool
  | .Starred .. => false
  | _ => true
theorem starEach_of {e : Expr} {es : List Expr} {env : PySem.Env} (h : notStar e = true) : starEach (e :: es) env = (false, eval e env) :: starEach es env := by
  cases e <;> first | rfl | (simp [notStar] at h)
def plainOf : List Expr → Bool
  | [] => true
  | e :: es => notStar e && plainOf es
theorem plain_any {env : PySem.Env} {pos : Pos} : ∀ {es : List Expr}, plainOf es = true → (backTo pos (starEach es env)).any (·.1) = false
  | [], _ => rfl
  | e :: es, h => by
    simp only [plainOf, Bool.and_eq_true] at h
    rw [starEach_of h.1]
    have ih := plain_any (env := env) (pos := pos) h.2
    show ((false || (backTo pos (starEach es env)).any (·.1))) = false
    rw [ih]; rfl

def varOk (Γ : Gam) (i : Nat) (x : Str) : Bool :=
  decide (Γ.N[i]? = some x) && (decide (Γ.sn.lookup x = some .local) || decide (Γ.sn.lookup x = some .cell) || decide (Γ.sn.lookup x = some .free)) && !(x == ("__debug__" : Str)) && !(x == ("__classdict__" : Str))
def glOk (Γ : Gam) (x : Str) : Bool := decide (Γ.sn.lookup x = some .globalImplicit) && !(x == ("__debug__" : Str)) && !(x == ("__name__" : Str))
def bltOk (Γ : Gam) (x : Str) (e : Expr) : Bool := match e with
  | .Name y _ => decide (y = x) && glOk Γ x && decide (x ∈ Γ.bs)
  | _ => false

section
variable {X : Cx} {Z : EnvQ} {Γ : Gam} {EX : XK}
theorem Good.gl (G : Good X Z Γ EX) {x : Str} (h : glOk Γ x = true) : Gl X x ∧ (x == ("__debug__" : Str)) = false ∧ x ≠ "__name__" := by
  simp only [glOk, Bool.and_eq_true, decide_eq_true_eq, Bool.not_eq_true'] at h
  refine ⟨?_, h.1.2, fun z => ?_⟩
  · show X.env.scope.names.lookup x = _
    rw [G.sn]; exact h.1.1
  · rw [z] at h; exact absurd h.2 (by decide)
theorem Good.blt (G : Good X Z Γ EX) {x : Str} {e : Expr} (h : bltOk Γ x e = true) : ∃ p, e = .Name x p ∧ Gl X x ∧ (x == ("__debug__" : Str)) = false ∧ x ≠ "__name__" ∧ X.mg x = none := by
  cases e <;> simp only [bltOk, Bool.and_eq_true, decide_eq_true_eq, Bool.false_eq_true] at h
  obtain ⟨⟨rfl, h2⟩, h3⟩ := h
  obtain ⟨a, b, c⟩ := G.gl h2
  exact ⟨_, rfl, a, b, c, G.bs _ h3⟩
theorem Good.var (G : Good X Z Γ EX) {i : Nat} {x : Str} {pos : Pos} (h : varOk Γ i x = true) : PE X (.Name x pos) (tVar i) := by
  simp only [varOk, Bool.and_eq_true, Bool.or_eq_true, decide_eq_true_eq, Bool.not_eq_true'] at h
  obtain ⟨⟨⟨h1, h2⟩, h3⟩, h4⟩ := h
  refine pe_var (by rw [G.N]; exact h1) ?_ h3 h4
  rcases h2 with (h2 | h2) | h2
  · exact .inl (by rw [G.sn]; exact h2)
  · exact .inr (.inl (by rw [G.sn]; exact h2))
  · exact .inr (.inr (by rw [G.sn]; exact h2))
end

/-- all that was tracked is as it was -/
abbrev KA (H H' : Hp) : Prop := ∀ a o, H a = some o → H' a = some o
theorem KA.refl (H : Hp) : KA H H := fun _ _ h => h
theorem KA.trans {H H1 H2 : Hp} (a : KA H H1) (b : KA H1 H2) : KA H H2 := fun c o h => b c o (a c o h)
theorem KA.new {H : Hp} {p : Addr} {o : HO} (h : H p = none) : KA H (upd H p o) := fun a u e => by rw [upd_ne (ne_of_none e h)]; exact e
theorem KA.reps {K : PySem.W.Frag} {H H' : Hp} {F : Addr → Prop} {ds : List D} {vs : List V} {W : List Addr} (k : KA H H') (r : Reps K H F ds vs W) : Reps K H' F ds vs W :=
  r.frame (B := []) (fun a o h _ => k a o h) (fun a m => nomatch m) (fun a _ m => nomatch m) (fun a _ m => nomatch m) fun _ h => h
theorem KA.lreps {K : PySem.W.Frag} {H H' : Hp} {F : Addr → Prop} {L : Lcs} {σ : St} {ws : List (List Addr)} (k : KA H H') (r : LReps K H F L σ ws) : LReps K H' F L σ ws :=
  r.frame (B := []) (fun a o h _ => k a o h) (fun a m => nomatch m) (fun a _ m => nomatch m) (fun a _ m => nomatch m) fun _ h => h
theorem KA.wf {H H' : Hp} {F : Addr → Prop} {W : List Addr} (k : KA H H') (w : Wf H F W) : Wf H' F W := ⟨w.nd, w.dj, fun a f => by
  have := w.tr a f
  cases q : H a with
  | none => exact absurd q this
  | some o => rw [k a o q]; exact fun z => nomatch z⟩
theorem KA.ext {H H' : Hp} {F : Addr → Prop} {W : List Addr} (k : KA H H') : Ext H F W H' F W := ⟨fun a o h _ => k a o h, fun _ h => .inl h, fun _ h => h, fun _ h => .inl h, fun a h => by
  cases q : H a with
  | none => exact absurd q h
  | some o => rw [k a o q]; exact fun z => nomatch z⟩

/-! ## what a representation tells of the value -/
section
variable {K : PySem.W.Frag} {H : Hp} {F : Addr → Prop} {v : V} {W : List Addr}
theorem Reps.intI {i : Int} (r : Reps K H F [.int i] [v] W) : v = .int i := by cases r; rfl
theorem Reps.blI {b : Bool} (r : Reps K H F [.bl b] [v] W) : v = .bl b := by cases r; rfl
theorem Reps.nonI (r : Reps K H F [.non] [v] W) : v = .non := by cases r; rfl
theorem Reps.strI {s : Str} (r : Reps K H F [.str s] [v] W) : v = .str s := by cases r; rfl
theorem Reps.tupI {ds : List D} (r : Reps K H F [.tup ds] [v] W) : ∃ a us, v = .ref a ∧ SqT K H a us ∧ Reps K H F ds us W := by
  cases r with
  | tup s r1 r2 => cases r2; exact ⟨_, _, rfl, s.1, by simpa using r1⟩
theorem Reps.tupD {ds : List D} (r : Reps K H F [.tup ds] [v] W) : ∃ a us, v = .ref a ∧ SqD K H a us ∧ Reps K H F ds us W := by
  cases r with
  | tup s r1 r2 => cases r2; exact ⟨_, _, rfl, s, by simpa using r1⟩
theorem Reps.lstI {b : Bool} {ds : List D} (r : Reps K H F [.lst b ds] [v] W) : ∃ a us W1, v = .ref a ∧ H a = some (.lst us) ∧ Reps K H F ds us W1 ∧ W1.Sublist W ∧ (b = true → W = a :: W1) ∧ (b = false → W1 = [] ∧ F a) := by
  cases r with
  | sh f s r1 r2 => cases r2; exact ⟨_, _, [], rfl, s, r1, List.nil_sublist _, fun z => (nomatch z), fun _ => ⟨rfl, f⟩⟩
  | own s r1 r2 =>
    cases r2
    refine ⟨_, _, _, rfl, s, by simpa using r1, ?_, fun _ => rfl, fun z => nomatch z⟩
    exact List.sublist_cons_self ..
theorem Reps.frzI {ds : List D} (r : Reps K H F [.frz ds] [v] W) : ∃ a us, v = .ref a ∧ FrzOk K H F a us ∧ Reps K H F ds us [] := by
  cases r with
  | frz f r1 r2 => cases r2; exact ⟨_, _, rfl, f, r1⟩
/-- a list or a tuple, opened -/
theorem Reps.els {d : D} {ds : List D} (r : Reps K H F [d] [v] W) (h : d.els = some ds) : ∃ a us W1, v = .ref a ∧ (SqL K H a us ∨ SqT K H a us) ∧ Reps K H F ds us W1 ∧ W1.Sublist W := by
  cases d <;> simp only [D.els, Option.some.injEq, reduceCtorEq] at h
  · subst h; obtain ⟨a, us, e, s, r1⟩ := r.tupI; exact ⟨a, us, W, e, .inr s, r1, List.Sublist.refl _⟩
  · subst h; obtain ⟨a, us, W1, e, s, r1, sb, _⟩ := r.lstI; exact ⟨a, us, W1, e, .inl (SqL.of s), r1, sb⟩
  · subst h; obtain ⟨a, us, e, s, r1⟩ := r.frzI; exact ⟨a, us, [], e, .inl s.sq, r1, List.nil_sublist _⟩
theorem Reps.isEmpty {ds : List D} {vs : List V} (r : Reps K H F ds vs W) : vs.isEmpty = ds.isEmpty := by cases r <;> rfl
theorem tru_of {d : D} {k : Bool} (r : Reps K H F [d] [v] W) (h : tru d = some k) : TruV K v H k := by
  cases d <;> simp only [tru, Option.some.injEq, reduceCtorEq] at h
  · subst h; rw [r.nonI]; rfl
  · subst h; rw [r.blI]; rfl
  · subst h; rw [r.intI]; rfl
  · subst h; obtain ⟨a, us, e, s, r1⟩ := r.tupI; subst e; exact .inr (.inl ⟨us, s, by rw [r1.isEmpty]⟩)
  · subst h; obtain ⟨a, us, W1, e, s, r1, _⟩ := r.lstI; subst e; exact .inl ⟨us, SqL.of s, by rw [r1.isEmpty]⟩
  · subst h; obtain ⟨a, us, e, s, r1⟩ := r.frzI; subst e; exact .inl ⟨us, s.sq, by rw [r1.isEmpty]⟩
end
end Q

namespace Q
open PySem L2 PySem.Spec

/-! ## the operators -/
/-- a call of a built-in with one, two arguments -/
def callB1 (Γ : Gam) (x : Str) : Expr → Option Expr
  | .Call f [a] [] _ => if bltOk Γ x f && notStar a then some a else none
  | _ => none
def callB2 (Γ : Gam) (x : Str) : Expr → Option (Expr × Expr)
  | .Call f [a, b] [] _ => if bltOk Γ x f && notStar a && notStar b then some (a, b) else none
  | _ => none

def tyName (Γ : Gam) (t : String) (e : Expr) : Bool := bltOk Γ (Str.ofString t) e && tyOk t && decide (bootBuiltins (Str.ofString t) = some (.type t))
def tyNames (Γ : Gam) : List String → List Expr → Bool
  | [], [] => true
  | t :: ts, e :: es => tyName Γ t e && notStar e && tyNames Γ ts es
  | _, _ => false

def noneCmp (op : CmpOp) : Expr → Option Expr
  | .Compare a [o] [.Constant .none _ _] _ => if o = op then some a else none
  | _ => none
theorem noneCmp_out {op : CmpOp} {e a : Expr} (h : noneCmp op e = some a) : ∃ j p pos, e = .Compare a [op] [.Constant .none j p] pos := by
  unfold noneCmp at h
  split at h
  · split at h
    · rename_i q; cases h; subst q; exact ⟨_, _, _, rfl⟩
    · cases h
  · cases h
def notSet : Expr → Bool
  | .Set .. => false
  | _ => true
theorem noMark {op : CmpOp} {b : Expr} (h : notSet b = true) : behindInMarks op b = false := by
  cases b <;> first | rfl | (simp [notSet] at h)
section
variable {K : PySem.W.Frag} {H : Hp} {F : Addr → Prop} {W : List Addr}
theorem Reps.dps {ds : List D} {us : List V} (r : Reps K H F ds us W) : ∀ {ps : List PyData}, D.toPys ds = some ps → DpAll K H us ps := by
  induction r with
  | nil => intro ps h; simp [D.toPys] at h; subst h; exact .nil
  | non _ ih | bl _ ih | int _ ih | str _ ih =>
    intro ps h
    simp only [D.toPys, D.toPy] at h
    split at h
    · rename_i p ps' h1 h2
      simp only [Option.some.injEq] at h h1
      subst h h1
      refine .cons ?_ (ih h2)
      constructor
    · cases h
  | tup s _ _ i1 i2 =>
    intro ps h
    simp only [D.toPys, D.toPy] at h
    split at h
    · rename_i p ps' h1 h2
      split at h1
      · rename_i qs h3
        simp only [Option.some.injEq] at h h1
        subst h h1
        exact .cons (.tup s.1 (i1 h3)) (i2 h2)
      · cases h1
    · cases h
  | sh f s _ _ i1 i2 =>
    intro ps h
    simp only [D.toPys, D.toPy] at h
    split at h
    · rename_i p ps' h1 h2
      split at h1
      · rename_i qs h3
        simp only [Option.some.injEq] at h h1
        subst h h1
        exact .cons (.lst (SqL.of s) (i1 h3)) (i2 h2)
      · cases h1
    · cases h
  | own s _ _ i1 i2 =>
    intro ps h
    simp only [D.toPys, D.toPy] at h
    split at h
    · rename_i p ps' h1 h2
      split at h1
      · rename_i qs h3
        simp only [Option.some.injEq] at h h1
        subst h h1
        exact .cons (.lst (SqL.of s) (i1 h3)) (i2 h2)
      · cases h1
    · cases h
  | dsh f s e _ _ i1 i2 => intro ps h; simp [D.toPys, D.toPy] at h
  | down s e _ _ i1 i2 => intro ps h; simp [D.toPys, D.toPy] at h
  | frz f _ _ i1 i2 =>
    intro ps h
    simp only [D.toPys, D.toPy] at h
    split at h
    · rename_i p ps' h1 h2
      split at h1
      · rename_i qs h3
        simp only [Option.some.injEq] at h h1
        subst h h1
        exact .cons (.lst f.sq (i1 h3)) (i2 h2)
      · cases h1
    · cases h
theorem Reps.dp {d : D} {v : V} {p : PyData} (r : Reps K H F [d] [v] W) (h : d.toPy = some p) : Dp K H v p := by
  have := r.dps (ps := [p]) (by simp [D.toPys, h])
  cases this with
  | cons a _ => exact a
theorem eqD_dp {d e : D} {v u : V} {W1 W2 : List Addr} {F2 : Addr → Prop} {b : Bool} (r : Reps K H F [d] [v] W1) (r2 : Reps K H F2 [e] [u] W2) (h : eqD d e = some b) :
    ∃ p q, Dp K H v p ∧ Dp K H u q ∧ SeqAt.shaped p = true ∧ SeqAt.shaped q = true ∧ b = PyData.eqv p q := by
  have gen : (match d.toPy, e.toPy with
    | some p, some q => if SeqAt.shaped p && SeqAt.shaped q then some (PyData.eqv p q) else none
    | _, _ => none) = some b → ∃ p q, Dp K H v p ∧ Dp K H u q ∧ SeqAt.shaped p = true ∧ SeqAt.shaped q = true ∧ b = PyData.eqv p q := by
    intro h
    split at h
    · rename_i p q h1 h2
      split at h
      · rename_i hs
        simp only [Bool.and_eq_true] at hs
        simp only [Option.some.injEq] at h
        exact ⟨p, q, r.dp h1, r2.dp h2, hs.1, hs.2, h.symm⟩
      · cases h
    · cases h
  unfold eqD at h
  split at h
  · rename_i i j
    simp only [Option.some.injEq] at h
    rw [r.intI, r2.intI]
    refine ⟨.int i, .int j, .int i, .int j, by rfl, by rfl, ?_⟩
    subst h
    simp [PyData.eqv]
    by_cases e : i = j <;> simp [e]
  · exact gen h

end
theorem opOr {X : Cx} {f : Value → Value → Sem Value} {r1 r2 : R2} (h1 : OpR X f r1) (h2 : OpR X f r2) : OpR X f (fun x y H Q => r1 x y H Q ∨ r2 x y H Q) := by
  intro pins s σ H x y v u Q I rx ry h
  rcases h with h | h
  · exact h1 pins s σ H x y v u Q I rx ry h
  · exact h2 pins s σ H x y v u Q I rx ry h
def truCmp : Expr → Option Expr
  | .Compare a [o] [.Constant (.bool true) _ _] _ => if o = .Is then some a else none
  | _ => none
theorem truCmp_out {e a : Expr} (h : truCmp e = some a) : ∃ j p pos, e = .Compare a [.Is] [.Constant (.bool true) j p] pos := by
  unfold truCmp at h
  split at h
  · split at h
    · rename_i q; cases h; subst q; exact ⟨_, _, _, rfl⟩
    · cases h
  · cases h
def empCmp (op : CmpOp) : Expr → Option Expr
  | .Compare a [o] [.List [] _] _ => if o = op then some a else none
  | _ => none
theorem empCmp_out {op : CmpOp} {e a : Expr} (h : empCmp op e = some a) : ∃ p pos, e = .Compare a [op] [.List [] p] pos := by
  unfold empCmp at h
  split at h
  · split at h
    · rename_i q; cases h; subst q; exact ⟨_, _, rfl⟩
    · cases h
  · cases h
def ast1 (Γ : Gam) : O1 → Expr → Option Expr
  | .neg, .UnaryOp .USub a _ => some a
  | .not, .UnaryOp .Not a _ => some a
  | .len, e => callB1 Γ "len" e
  | .abs, e => callB1 Γ "abs" e
  | .int1, e => callB1 Γ "int" e
  | .isi ts, e => match callB2 Γ "isinstance" e with
    | some (a, .Tuple es _ _) => if tyNames Γ ts es && decide (ts.length ≤ 100) then some a else none
    | some (a, b) => match ts with | [t] => if tyName Γ t b then some a else none | _ => none
    | none => none
  | .isN, e => noneCmp .Is e
  | .ntN, e => noneCmp .IsNot e
  | .isTr, e => truCmp e
  | .eqE, e => empCmp .Eq e
  | .neE, e => empCmp .NotEq e
  | _, _ => none

section
variable {X : Cx} {Z : EnvQ} {Γ : Gam} {EX : XK} {K : PySem.W.Frag} {H : Hp} {F : Addr → Prop}

theorem callB1_out {x : Str} {e a : Expr} (h : callB1 Γ x e = some a) : ∃ f pos, e = .Call f [a] [] pos ∧ bltOk Γ x f = true ∧ notStar a = true := by
  unfold callB1 at h
  split at h
  · split at h
    · rename_i q
      simp only [Bool.and_eq_true] at q
      cases h
      exact ⟨_, _, rfl, q.1, q.2⟩
    · cases h
  · cases h
theorem callB2_out {x : Str} {e a b : Expr} (h : callB2 Γ x e = some (a, b)) : ∃ f pos, e = .Call f [a, b] [] pos ∧ bltOk Γ x f = true ∧ notStar a = true ∧ notStar b = true := by
  unfold callB2 at h
  split at h
  · split at h
    · rename_i q
      simp only [Bool.and_eq_true] at q
      cases h
      exact ⟨_, _, rfl, q.1.1, q.1.2, q.2⟩
    · cases h
  · cases h

/-- a built-in function of one argument -/
theorem b1 (G : Good X Z Γ EX) {x : Str} {id : String} {e a : Expr} {r : List V → Hp → VK → Prop} (h : callB1 Γ x e = some a) (hc : CallR X (.builtin id) r) (hv : bootBuiltins x = some (.builtin id))
    {σ : L2.St} {H : Hp} {Q : VK} (q : tW X a σ H fun v H1 => r [v] H1 Q) : tW X e σ H Q := by
  obtain ⟨f, pos, rfl, hb, ns⟩ := callB1_out h
  obtain ⟨p, rfl, hg, hd, hn, hm⟩ := G.blt hb
  exact toW (pe_callB hc hg hm hv (pa_cons peW pa_nil (starEach_of ns)) hn hd (starEach_of ns) rfl) (show tCB r (tCons (tW X a) tNil) σ H Q from q)
theorem ty1 (G : Good X Z Γ EX) {x : Str} {id : String} {e a : Expr} {r : List V → Hp → VK → Prop} (h : callB1 Γ x e = some a) (hc : CallR X (.type id) r) (hv : bootBuiltins x = some (.type id))
    {σ : L2.St} {H : Hp} {Q : VK} (q : tW X a σ H fun v H1 => r [v] H1 Q) : tW X e σ H Q := by
  obtain ⟨f, pos, rfl, hb, ns⟩ := callB1_out h
  obtain ⟨p, rfl, hg, hd, hn, hm⟩ := G.blt hb
  exact toW (pe_callTy hc hg hm hv (pa_cons peW pa_nil (starEach_of ns)) hn hd (starEach_of ns) rfl) (show tCB r (tCons (tW X a) tNil) σ H Q from q)
theorem b2 (G : Good X Z Γ EX) {x : Str} {id : String} {e a b : Expr} {r : List V → Hp → VK → Prop} (h : callB2 Γ x e = some (a, b)) (hc : CallR X (.builtin id) r) (hv : bootBuiltins x = some (.builtin id))
    {σ : L2.St} {H : Hp} {Q : VK} (q : tW X a σ H fun v H1 => tW X b σ H1 fun u H2 => r [v, u] H2 Q) : tW X e σ H Q := by
  obtain ⟨f, pos, rfl, hb, ns, ns2⟩ := callB2_out h
  obtain ⟨p, rfl, hg, hd, hn, hm⟩ := G.blt hb
  refine toW (pe_callB hc hg hm hv (pa_cons peW (pa_cons peW pa_nil (starEach_of ns2)) (starEach_of ns)) hn hd (starEach_of ns) (plain_any (es := [b]) (by simp [plainOf, ns2]))) ?_
  exact (show tCB r (tCons (tW X a) (tCons (tW X b) tNil)) σ H Q from q)

/-- the type of a value -/
def tyStr : D → String
  | .non => "NoneType" | .bl _ => "bool" | .int _ => "int" | .str _ => "str" | .tup _ => "tuple" | .lst _ _ => "list" | .frz _ => "list" | .dic .. => "dict"
theorem kit_of_ty {d : D} {t : String} (h : tyOk t = true) : kitB (tyStr d) t = some (d.isT t) := by
  simp only [tyOk, Bool.or_eq_true, beq_iff_eq] at h
  rcases h with ((((rfl | rfl) | rfl) | rfl) | rfl) | rfl <;> cases d <;> (simp only [tyStr, D.isT]; decide +kernel)
theorem Reps.ty {d : D} {v : V} {W : List Addr} (r : Reps K H F [d] [v] W) : TyX K H v (.type (tyStr d)) := by
  cases d with
  | non => rw [r.nonI]; exact .base .non
  | bl b => rw [r.blI]; exact .base (.bl b)
  | int i => rw [r.intI]; exact .base (.int i)
  | str s => rw [r.strI]; exact .base (.str s)
  | tup ds =>
    obtain ⟨a, us, e, s, _⟩ := r.tupI
    subst e
    rcases s with (s | ⟨o, s⟩) | ⟨o, its, n, hk, hc, _⟩
    · exact .base (.tup s)
    · exact .fTuple s
    · exact .kTuple hk hc
  | lst b ds => obtain ⟨a, us, _, e, s, _⟩ := r.lstI; subst e; exact .base (.lst s)
  | frz ds =>
    obtain ⟨a, us, e, s, _⟩ := r.frzI
    subst e
    rcases s with ⟨s | ⟨o, s⟩, _⟩ | ⟨o, its, n, hk, hc, _⟩
    · exact .base (.lst s)
    · exact .base (.frz s)
    · exact .kList hk hc
  | dic b ks ds =>
    cases r with
    | dsh f s e r1 r2 => exact .base (.dK s)
    | down s e r1 r2 => exact .base (.dK s)
theorem kitAny_of {d : D} : ∀ {ts : List String}, (∀ t ∈ ts, tyOk t = true) → PySem.W.kitAny K (.type (tyStr d)) (ts.map Value.type) = some (ts.any d.isT)
  | [], _ => rfl
  | t :: ts, h => by
    have h1 : PySem.W.kitOne K (.type (tyStr d)) (.type t) = some (d.isT t) := kit_ty (kit_of_ty (h t List.mem_cons_self))
    refine kitAny_cons h1 (fun hb => ?_) (fun hb => ?_)
    · rw [kitAny_of (fun t m => h t (List.mem_cons_of_mem _ m))]
      simp [List.any_cons, hb]
    · simp [List.any_cons, hb]

theorem tyName_pe (G : Good X Z Γ EX) {t : String} {e : Expr} (h : tyName Γ t e = true) : PE X e (tC (.ty t)) ∧ tyOk t = true := by
  simp only [tyName, Bool.and_eq_true, decide_eq_true_eq] at h
  obtain ⟨⟨h1, h2⟩, h3⟩ := h
  obtain ⟨p, rfl, hg, hd, hn, hm⟩ := G.blt h1
  exact ⟨pe_bltn hg hm h3 rfl hn hd, h2⟩
theorem tyNames_pa (G : Good X Z Γ EX) : ∀ {ts : List String} {es : List Expr}, tyNames Γ ts es = true → (∃ t, PA X es t ∧ ∀ σ H Q, Q (ts.map V.ty) H → t σ H Q) ∧ (∀ t ∈ ts, tyOk t = true) ∧ Paired ClsV (ts.map V.ty) (ts.map Value.type)
  | [], [], _ => ⟨⟨tNil, pa_nil, fun _ _ _ q => q⟩, (fun _ m => nomatch m), .nil⟩
  | t :: ts, e :: es, h => by
    simp only [tyNames, Bool.and_eq_true] at h
    obtain ⟨⟨h1, h2⟩, h3⟩ := h
    obtain ⟨p1, k1⟩ := tyName_pe G h1
    obtain ⟨⟨t2, p2, q2⟩, k2, k3⟩ := tyNames_pa G h3
    refine ⟨⟨tCons (tC (.ty t)) t2, pa_cons p1 p2 (starEach_of h2), fun σ H Q q => q2 _ _ _ q⟩, fun u m => ?_, .cons (.ty t) k3⟩
    rcases List.mem_cons.mp m with rfl | m
    · exact k1
    · exact k2 u m
  | [], _ :: _, h => by simp [tyNames] at h
  | _ :: _, [], h => by simp [tyNames] at h
theorem tyNames_len {ts : List String} {es : List Expr} (h : tyNames Γ ts es = true) : ts.length = es.length := by
  induction ts generalizing es with
  | nil => cases es <;> simp_all [tyNames]
  | cons t ts ih =>
    cases es with
    | nil => simp [tyNames] at h
    | cons e es => simp only [tyNames, Bool.and_eq_true] at h; simp [ih h.2]

/-- what one operator does -/
theorem o1_ok (G : Good X Z Γ EX) {o : O1} {e a : Expr} (h : ast1 Γ o e = some a) {σ : L2.St} {H0 : Hp} {Q : VK}
    (q : tW X a σ H0 fun v H => ∃ (F : Addr → Prop) (d d' : D) (W : List Addr), Reps X.K H F [d] [v] W ∧ ap1 o d = some d' ∧ ∀ v' H', KA H H' → (∀ F', Reps X.K H' F' [d'] [v'] []) → Q v' H') : tW X e σ H0 Q := by
  cases o with
  | neg =>
    cases e <;> simp only [ast1, reduceCtorEq] at h
    rename_i op a' pos
    cases op <;> simp only [Option.some.injEq, reduceCtorEq] at h
    subst h
    refine toW (pe_un un_neg peW) (q.mono fun v H ⟨F, d, d', W, r, ea, k⟩ => ?_)
    cases d <;> simp only [ap1, Option.some.injEq, reduceCtorEq] at ea
    subst ea
    exact ⟨_, r.intI, k _ _ (KA.refl _) fun _ => .int .nil⟩
  | not =>
    cases e <;> simp only [ast1, reduceCtorEq] at h
    rename_i op a' pos
    cases op <;> simp only [Option.some.injEq, reduceCtorEq] at h
    subst h
    refine toW (pe_notT peW) (q.mono fun v H ⟨F, d, d', W, r, ea, k⟩ => ?_)
    simp only [ap1] at ea
    cases et : tru d with
    | none => rw [et] at ea; simp at ea
    | some b =>
      rw [et] at ea
      simp only [Option.some.injEq] at ea
      subst ea
      exact ⟨b, tru_of r et, k _ _ (KA.refl _) fun _ => .bl .nil⟩
  | len =>
    refine b1 G h call_len_seq PySem.boot_len (q.mono fun v H ⟨F, d, d', W, r, ea, k⟩ => ?_)
    have hd : ∃ ds, d.els = some ds ∧ d' = .int ds.length := by
      cases d <;> simp only [ap1, Option.some.injEq, reduceCtorEq] at ea <;> exact ⟨_, rfl, ea.symm⟩
    obtain ⟨ds, h1, rfl⟩ := hd
    obtain ⟨p, us, W1, rfl, s, r1, _⟩ := r.els h1
    refine ⟨p, us, rfl, s, ?_⟩
    rw [← r1.length]
    exact k _ _ (KA.refl _) fun _ => .int .nil
  | abs =>
    refine b1 (id := "abs") G h call_abs (by decide +kernel) (q.mono fun v H ⟨F, d, d', W, r, ea, k⟩ => ?_)
    cases d <;> simp only [ap1, Option.some.injEq, reduceCtorEq] at ea
    subst ea
    exact ⟨_, by rw [r.intI], k _ _ (KA.refl _) fun _ => .int .nil⟩
  | int1 =>
    refine ty1 (id := "int") G h call_int1 (by decide +kernel) (q.mono fun v H ⟨F, d, d', W, r, ea, k⟩ => ?_)
    cases d <;> simp only [ap1, Option.some.injEq, reduceCtorEq] at ea
    · subst ea
      exact .inr ⟨_, by rw [r.blI], k _ _ (KA.refl _) fun _ => .int .nil⟩
    · subst ea
      exact .inl ⟨_, by rw [r.intI], k _ _ (KA.refl _) fun _ => .int .nil⟩
  | isN =>
    obtain ⟨j, p, pos, rfl⟩ := noneCmp_out h
    refine toW (pe_cmp (pc_isN peW)) (q.mono fun v H ⟨F, d, d', W, r, ea, k⟩ => ?_)
    have : d' = .bl (decide (v = V.non)) := by
      cases d <;> simp only [ap1, Option.some.injEq] at ea <;> subst ea
      · rw [r.nonI]; rfl
      · rw [r.blI]; rfl
      · rw [r.intI]; rfl
      · rw [r.strI]; rfl
      · obtain ⟨a, us, e, _⟩ := r.tupI; rw [e]; rfl
      · obtain ⟨a, us, _, e, _⟩ := r.lstI; rw [e]; rfl
      · cases r <;> rfl
      · obtain ⟨a, us, e, _⟩ := r.frzI; rw [e]; rfl
    subst this
    exact k _ _ (KA.refl _) fun _ => .bl .nil
  | ntN =>
    obtain ⟨j, p, pos, rfl⟩ := noneCmp_out h
    refine toW (pe_cmp (pc_notN peW)) (q.mono fun v H ⟨F, d, d', W, r, ea, k⟩ => ?_)
    have : d' = .bl (!decide (v = V.non)) := by
      cases d <;> simp only [ap1, Option.some.injEq] at ea <;> subst ea
      · rw [r.nonI]; rfl
      · rw [r.blI]; rfl
      · rw [r.intI]; rfl
      · rw [r.strI]; rfl
      · obtain ⟨a, us, e, _⟩ := r.tupI; rw [e]; rfl
      · obtain ⟨a, us, _, e, _⟩ := r.lstI; rw [e]; rfl
      · cases r <;> rfl
      · obtain ⟨a, us, e, _⟩ := r.frzI; rw [e]; rfl
    subst this
    exact k _ _ (KA.refl _) fun _ => .bl .nil
  | isTr =>
    obtain ⟨j, p, pos, rfl⟩ := truCmp_out h
    refine toW (pe_cmpR op_isBl peW pe_bl (noMark rfl)) (q.mono fun v H ⟨F, d, d', W, r, ea, k⟩ => ?_)
    cases d <;> simp only [ap1, Option.some.injEq, reduceCtorEq] at ea
    subst ea
    rename_i b
    refine ⟨b, true, r.blI, rfl, ?_⟩
    have : decide (b = true) = b := by cases b <;> rfl
    rw [this]
    exact k _ _ (KA.refl _) fun _ => .bl .nil
  | eqE =>
    obtain ⟨p, pos, rfl⟩ := empCmp_out h
    refine toW (pe_cmpR (op_eqD (by have := G.un; omega)) peW (pe_lst pa_nil) (noMark rfl)) (q.mono fun v H ⟨F, d, d', W, r, ea, k⟩ => ?_)
    refine ⟨Nat.zero_le _, fun n hn => ?_⟩
    have kk : KA H (upd H n (.lst [])) := KA.new hn
    have rn : Reps X.K (upd H n (.lst [])) (fun a => a = n) [.lst false []] [.ref n] [] := .sh rfl (upd_same (H := H) (a := n) (o := .lst [])) .nil .nil
    simp only [ap1] at ea
    split at ea <;> simp only [Option.some.injEq, reduceCtorEq] at ea
    rename_i b hb
    subst ea
    obtain ⟨p, q', h1, h2, h3, h4, h5⟩ := eqD_dp (kk.reps r) rn hb
    exact ⟨p, q', h1, h2, h3, h4, by rw [← h5]; exact k _ _ kk fun _ => .bl .nil⟩
  | neE =>
    obtain ⟨p, pos, rfl⟩ := empCmp_out h
    refine toW (pe_cmpR (op_neD (by have := G.un; omega)) peW (pe_lst pa_nil) (noMark rfl)) (q.mono fun v H ⟨F, d, d', W, r, ea, k⟩ => ?_)
    refine ⟨Nat.zero_le _, fun n hn => ?_⟩
    have kk : KA H (upd H n (.lst [])) := KA.new hn
    have rn : Reps X.K (upd H n (.lst [])) (fun a => a = n) [.lst false []] [.ref n] [] := .sh rfl (upd_same (H := H) (a := n) (o := .lst [])) .nil .nil
    simp only [ap1] at ea
    split at ea <;> simp only [Option.some.injEq, reduceCtorEq] at ea
    rename_i b hb
    subst ea
    obtain ⟨p, q', h1, h2, h3, h4, h5⟩ := eqD_dp (kk.reps r) rn hb
    exact ⟨p, q', h1, h2, h3, h4, by rw [← h5]; exact k _ _ kk fun _ => .bl .nil⟩
  | isi ts =>
    simp only [ast1] at h
    split at h
    · rename_i a' es k' pos' hc
      split at h
      · rename_i ht
        cases h
        simp only [Bool.and_eq_true, decide_eq_true_eq] at ht
        obtain ⟨ht, hl⟩ := ht
        obtain ⟨⟨t2, p2, q2⟩, k2, k3⟩ := tyNames_pa G ht
        refine b2 (id := "isinstance") G hc call_isiT (by decide +kernel) (q.mono fun v H ⟨F, d, d', W, r, ea, k⟩ => ?_)
        simp only [ap1, Option.some.injEq] at ea
        subst ea
        refine toW (pe_tup p2) (q2 _ _ _ ⟨?_, fun p hp => ?_⟩)
        · have : (ts.map V.ty).length ≤ 1000000 → (ts.map V.ty).length ≤ sizeLine := fun h => Nat.le_trans h (by rw [sizeLine_eq]; decide)
          refine this ?_
          rw [List.length_map]
          exact Nat.le_trans hl (by decide)
        · have kk : KA H (upd H p (.tup (ts.map V.ty))) := KA.new hp
          exact ⟨v, p, ts.map V.ty, .type (tyStr d), ts.map Value.type, _, rfl, upd_same, k3, (kk.reps r).ty, kitAny_of k2, k _ _ kk fun _ => .bl .nil⟩
      · cases h
    · rename_i a' b' hb hc
      split at h
      · rename_i t
        split at h
        · rename_i ht
          cases h
          obtain ⟨p1, k1⟩ := tyName_pe G ht
          refine b2 (id := "isinstance") G hc call_isi (by decide +kernel) (q.mono fun v H ⟨F, d, d', W, r, ea, k⟩ => ?_)
          simp only [ap1, Option.some.injEq] at ea
          subst ea
          refine toW p1 ⟨v, .ty t, .type (tyStr d), .type t, _, rfl, .ty t, r.ty, kit_ty (kit_of_ty k1), ?_⟩
          have : (D.isT d t) = ([t].any d.isT) := by simp
          rw [this]
          exact k _ _ (KA.refl _) fun _ => .bl .nil
        · cases h
      · cases h
    · cases h
end
end Q

namespace Q
open PySem L2 PySem.Spec

def binAst (op : Operator) : Expr → Option (Expr × Expr)
  | .BinOp a o b _ => if o = op then some (a, b) else none
  | _ => none
theorem binAst_out {op : Operator} {e a b : Expr} (h : binAst op e = some (a, b)) : ∃ pos, e = .BinOp a op b pos := by
  unfold binAst at h
  split at h
  · split at h
    · rename_i q; cases h; subst q; exact ⟨_, rfl⟩
    · cases h
  · cases h
def cmpAst (op : CmpOp) : Expr → Option (Expr × Expr)
  | .Compare a [o] [b] _ => if o = op ∧ notSet b = true then some (a, b) else none
  | _ => none
theorem cmpAst_out {op : CmpOp} {e a b : Expr} (h : cmpAst op e = some (a, b)) : ∃ pos, e = .Compare a [op] [b] pos ∧ notSet b = true := by
  unfold cmpAst at h
  split at h
  · split at h
    · rename_i q; cases h; obtain ⟨rfl, q⟩ := q; exact ⟨_, rfl, q⟩
    · cases h
  · cases h
def notSlice : Expr → Bool
  | .Slice .. => false
  | _ => true
theorem plainIx {b : Expr} (h : notSlice b = true) : PlainIx b := by
  cases b <;> first | (intro o i; rfl) | (simp [notSlice] at h)
def ixAst : Expr → Option (Expr × Expr)
  | .Subscript a b _ => if notSlice b = true then some (a, b) else none
  | _ => none
theorem ixAst_out {e a b : Expr} (h : ixAst e = some (a, b)) : ∃ pos, e = .Subscript a b pos ∧ notSlice b = true := by
  unfold ixAst at h
  split at h
  · split at h
    · rename_i q; cases h; exact ⟨_, rfl, q⟩
    · cases h
  · cases h

def ast2 (Γ : Gam) : O2 → Expr → Option (Expr × Expr)
  | .add, e => binAst .Add e
  | .sub, e => binAst .Sub e
  | .mul, e => binAst .Mult e
  | .fdiv, e => binAst .FloorDiv e
  | .mod, e => binAst .Mod e
  | .pow, e => binAst .Pow e
  | .lt, e => cmpAst .Lt e
  | .le, e => cmpAst .LtE e
  | .gt, e => cmpAst .Gt e
  | .ge, e => cmpAst .GtE e
  | .eq, e => cmpAst .Eq e
  | .ne, e => cmpAst .NotEq e
  | .isin, e => cmpAst .In e
  | .notin, e => cmpAst .NotIn e
  | .ix, e => ixAst e
  | .min, e => callB2 Γ "min" e
  | .max, e => callB2 Γ "max" e
  | .shl, e => binAst .LShift e
  | .shr, e => binAst .RShift e
  | .band, e => binAst .BitAnd e

section
variable {X : Cx} {Z : EnvQ} {Γ : Gam} {EX : XK} {K : PySem.W.Frag} {H : Hp} {F : Addr → Prop} {W : List Addr}

theorem Reps.at_ {ds : List D} {us : List V} {d : D} {i : Int} (r : Reps K H F ds us W) (h : atI ds i = some d) : ∃ v W1, atI us i = some v ∧ Reps K H F [d] [v] W1 ∧ W1.Sublist W := by
  unfold atI at h ⊢
  rw [← r.length]
  cases q : ixN ds.length i with
  | none => rw [q] at h; simp at h
  | some j =>
    rw [q] at h
    obtain ⟨v, W1, e, r1, s⟩ := r.get (i := j) (by simpa using h)
    exact ⟨v, W1, by simpa using e, r1, s⟩

theorem flat_of {d : D} {v : V} (r : Reps K H F [d] [v] W) (h : flatD d = true) : flatV v = true := by
  cases d <;> simp only [flatD, Bool.false_eq_true] at h
  · rw [r.nonI]; rfl
  · rw [r.blI]; rfl
  · rw [r.intI]; rfl
  · rw [r.strI]; rfl
theorem eqF_of {d e : D} {v u : V} {W2 : List Addr} {F2 : Addr → Prop} (r : Reps K H F [d] [v] W) (r2 : Reps K H F2 [e] [u] W2) (h : flatD d = true) (h2 : flatD e = true) : eqV v u = eqF d e := by
  have str : ∀ a b : Str, (a == b) = decide (a = b) := fun a b => by by_cases e : a = b <;> simp [e]
  have int : ∀ a b : Int, (a == b) = decide (a = b) := fun a b => by by_cases e : a = b <;> simp [e]
  cases d <;> simp only [flatD, Bool.false_eq_true] at h <;> cases e <;> simp only [flatD, Bool.false_eq_true] at h2 <;>
    first
    | (rw [r.nonI]; first | rw [r2.nonI] | rw [r2.blI] | rw [r2.intI] | rw [r2.strI])
    | (rw [r.blI]; first | rw [r2.nonI] | rw [r2.blI] | rw [r2.intI] | rw [r2.strI])
    | (rw [r.intI]; first | rw [r2.nonI] | rw [r2.blI] | rw [r2.intI] | rw [r2.strI])
    | (rw [r.strI]; first | rw [r2.nonI] | rw [r2.blI] | rw [r2.intI] | rw [r2.strI])
  all_goals first | rfl | exact int _ _ | exact str _ _
theorem flats_of {ds : List D} : ∀ {us : List V} {W : List Addr}, Reps K H F ds us W → ds.all flatD = true → us.all flatV = true := by
  induction ds with
  | nil => intro us W r _; cases r; rfl
  | cons d ds ih =>
    intro us W r h
    cases us with
    | nil => cases r
    | cons u us =>
      obtain ⟨W1, W2, rfl, r1, r2⟩ := Reps.cons_iff.mp r
      simp only [List.all_cons, Bool.and_eq_true] at h ⊢
      exact ⟨flat_of r1 h.1, ih r2 h.2⟩
theorem inV_of {x : D} {v : V} {Wx : List Addr} {Fx : Addr → Prop} {ds : List D} (rx : Reps K H Fx [x] [v] Wx) (hx : flatD x = true) : ∀ {us : List V} {W : List Addr}, Reps K H F ds us W → ds.all flatD = true → inV v us = ds.any fun y => eqF y x := by
  induction ds with
  | nil => intro us W r _; cases r; rfl
  | cons d ds ih =>
    intro us W r h
    cases us with
    | nil => cases r
    | cons u us =>
      obtain ⟨W1, W2, rfl, r1, r2⟩ := Reps.cons_iff.mp r
      simp only [List.all_cons, Bool.and_eq_true] at h
      have e := ih r2 h.2
      unfold inV at e ⊢
      rw [List.any_cons, List.any_cons, e, eqF_of r1 rx h.1 hx]

/-- two ints under an operator -/
theorem intOp {op : Value → Value → Sem Value} {a b : Expr} (σ : L2.St) : True := trivial

theorem o2_ok (G : Good X Z Γ EX) {o : O2} {e a b : Expr} (h : ast2 Γ o e = some (a, b)) {σ : L2.St} {H0 : Hp} {Q : VK}
    (q : tW X a σ H0 fun v H1 => tW X b σ H1 fun u H => ∃ (F F2 : Addr → Prop) (d d2 d' : D) (W W2 : List Addr), Reps X.K H F [d] [v] W ∧ Reps X.K H F2 [d2] [u] W2 ∧ ap2 o d d2 = some d' ∧
      ∀ v' H' W', KA H H' → Reps X.K H' F [d'] [v'] W' → W'.Sublist W → Q v' H') : tW X e σ H0 Q := by
  have go : ∀ {r : R2}, (∀ v u H, (∃ (F F2 : Addr → Prop) (d d2 d' : D) (W W2 : List Addr), Reps X.K H F [d] [v] W ∧ Reps X.K H F2 [d2] [u] W2 ∧ ap2 o d d2 = some d' ∧
      ∀ v' H' W', KA H H' → Reps X.K H' F [d'] [v'] W' → W'.Sublist W → Q v' H') → r v u H Q) → tOp r (tW X a) (tW X b) σ H0 Q := fun {r} k => q.mono fun v H1 q1 => q1.mono fun u H q2 => k v u H q2
  have sc : ∀ {F : Addr → Prop} {W : List Addr} {d' : D} {v' : V} {H : Hp} {k : ∀ v' H' W', KA H H' → Reps X.K H' F [d'] [v'] W' → W'.Sublist W → Q v' H'}, Reps X.K H F [d'] [v'] [] → Q v' H := fun {F W d' v' H k} r => k _ _ _ (KA.refl _) r (List.nil_sublist _)
  cases o with
  | add =>
    obtain ⟨pos, rfl⟩ := binAst_out h
    refine toW (pe_op op_add peW peW) (go fun v u H ⟨F, F2, d, d2, d', W, W2, r, r2, ea, k⟩ => ?_)
    cases d <;> cases d2 <;> simp only [ap2, Option.some.injEq, reduceCtorEq] at ea
    subst ea
    exact ⟨_, _, r.intI, r2.intI, k _ _ _ (KA.refl _) (.int .nil) (List.nil_sublist _)⟩
  | sub =>
    obtain ⟨pos, rfl⟩ := binAst_out h
    refine toW (pe_op op_sub peW peW) (go fun v u H ⟨F, F2, d, d2, d', W, W2, r, r2, ea, k⟩ => ?_)
    cases d <;> cases d2 <;> simp only [ap2, Option.some.injEq, reduceCtorEq] at ea
    subst ea
    exact ⟨_, _, r.intI, r2.intI, k _ _ _ (KA.refl _) (.int .nil) (List.nil_sublist _)⟩
  | mul =>
    obtain ⟨pos, rfl⟩ := binAst_out h
    refine toW (pe_op op_mulW peW peW) (go fun v u H ⟨F, F2, d, d2, d', W, W2, r, r2, ea, k⟩ => ?_)
    cases d <;> cases d2 <;> simp only [ap2, reduceCtorEq] at ea
    split at ea <;> simp only [Option.some.injEq, reduceCtorEq] at ea
    rename_i hc
    subst ea
    exact ⟨_, _, r.intI, r2.intI, hc, k _ _ _ (KA.refl _) (.int .nil) (List.nil_sublist _)⟩
  | fdiv =>
    obtain ⟨pos, rfl⟩ := binAst_out h
    have op : OpR X (binaryOp .FloorDiv) (rI (fun _ j => j ≠ 0 ∧ j.natAbs.log2 < 9000) fun i j => .int (i.fdiv j)) := opI fun i j _ _ _ _ _ hc q => PyProof.Rows.floordiv_int hc.1 q (.inl (PyProof.noPylong_of_log2 hc.2))
    refine toW (pe_op op peW peW) (go fun v u H ⟨F, F2, d, d2, d', W, W2, r, r2, ea, k⟩ => ?_)
    cases d <;> cases d2 <;> simp only [ap2, reduceCtorEq] at ea
    split at ea <;> simp only [Option.some.injEq, reduceCtorEq] at ea
    rename_i hc
    subst ea
    exact ⟨_, _, r.intI, r2.intI, hc, k _ _ _ (KA.refl _) (.int .nil) (List.nil_sublist _)⟩
  | mod =>
    obtain ⟨pos, rfl⟩ := binAst_out h
    refine toW (pe_op op_modN peW peW) (go fun v u H ⟨F, F2, d, d2, d', W, W2, r, r2, ea, k⟩ => ?_)
    cases d <;> cases d2 <;> simp only [ap2, reduceCtorEq] at ea
    split at ea <;> simp only [Option.some.injEq, reduceCtorEq] at ea
    rename_i hc
    subst ea
    exact ⟨_, _, r.intI, r2.intI, hc, k _ _ _ (KA.refl _) (.int .nil) (List.nil_sublist _)⟩
  | pow =>
    obtain ⟨pos, rfl⟩ := binAst_out h
    refine toW (pe_op op_pow peW peW) (go fun v u H ⟨F, F2, d, d2, d', W, W2, r, r2, ea, k⟩ => ?_)
    cases d <;> cases d2 <;> simp only [ap2, reduceCtorEq] at ea
    split at ea <;> simp only [Option.some.injEq, reduceCtorEq] at ea
    rename_i hc
    subst ea
    exact ⟨_, _, r.intI, r2.intI, ⟨hc.1, by omega, hc.2.2⟩, k _ _ _ (KA.refl _) (.int .nil) (List.nil_sublist _)⟩
  | shl =>
    obtain ⟨pos, rfl⟩ := binAst_out h
    refine toW (pe_op op_shl peW peW) (go fun v u H ⟨F, F2, d, d2, d', W, W2, r, r2, ea, k⟩ => ?_)
    cases d <;> cases d2 <;> simp only [ap2, reduceCtorEq] at ea
    split at ea <;> simp only [Option.some.injEq, reduceCtorEq] at ea
    rename_i hc
    subst ea
    exact ⟨_, _, r.intI, r2.intI, ⟨hc.1, by omega, hc.2.2⟩, k _ _ _ (KA.refl _) (.int .nil) (List.nil_sublist _)⟩
  | shr =>
    obtain ⟨pos, rfl⟩ := binAst_out h
    refine toW (pe_op op_shr peW peW) (go fun v u H ⟨F, F2, d, d2, d', W, W2, r, r2, ea, k⟩ => ?_)
    cases d <;> cases d2 <;> simp only [ap2, reduceCtorEq] at ea
    split at ea <;> simp only [Option.some.injEq, reduceCtorEq] at ea
    rename_i hc
    subst ea
    exact ⟨_, _, r.intI, r2.intI, hc, k _ _ _ (KA.refl _) (.int .nil) (List.nil_sublist _)⟩
  | band =>
    obtain ⟨pos, rfl⟩ := binAst_out h
    refine toW (pe_op op_and peW peW) (go fun v u H ⟨F, F2, d, d2, d', W, W2, r, r2, ea, k⟩ => ?_)
    cases d <;> cases d2 <;> simp only [ap2, Option.some.injEq, reduceCtorEq] at ea
    subst ea
    exact ⟨_, _, r.intI, r2.intI, k _ _ _ (KA.refl _) (.int .nil) (List.nil_sublist _)⟩
  | lt =>
    obtain ⟨pos, rfl, hm⟩ := cmpAst_out h
    refine toW (pe_cmpR op_lt peW peW (noMark hm)) (go fun v u H ⟨F, F2, d, d2, d', W, W2, r, r2, ea, k⟩ => ?_)
    cases d <;> cases d2 <;> simp only [ap2, Option.some.injEq, reduceCtorEq] at ea
    subst ea
    exact ⟨_, _, r.intI, r2.intI, k _ _ _ (KA.refl _) (.bl .nil) (List.nil_sublist _)⟩
  | le =>
    obtain ⟨pos, rfl, hm⟩ := cmpAst_out h
    refine toW (pe_cmpR op_le peW peW (noMark hm)) (go fun v u H ⟨F, F2, d, d2, d', W, W2, r, r2, ea, k⟩ => ?_)
    cases d <;> cases d2 <;> simp only [ap2, Option.some.injEq, reduceCtorEq] at ea
    subst ea
    exact ⟨_, _, r.intI, r2.intI, k _ _ _ (KA.refl _) (.bl .nil) (List.nil_sublist _)⟩
  | gt =>
    obtain ⟨pos, rfl, hm⟩ := cmpAst_out h
    refine toW (pe_cmpR op_gt peW peW (noMark hm)) (go fun v u H ⟨F, F2, d, d2, d', W, W2, r, r2, ea, k⟩ => ?_)
    cases d <;> cases d2 <;> simp only [ap2, Option.some.injEq, reduceCtorEq] at ea
    subst ea
    exact ⟨_, _, r.intI, r2.intI, k _ _ _ (KA.refl _) (.bl .nil) (List.nil_sublist _)⟩
  | ge =>
    obtain ⟨pos, rfl, hm⟩ := cmpAst_out h
    refine toW (pe_cmpR op_ge peW peW (noMark hm)) (go fun v u H ⟨F, F2, d, d2, d', W, W2, r, r2, ea, k⟩ => ?_)
    cases d <;> cases d2 <;> simp only [ap2, Option.some.injEq, reduceCtorEq] at ea
    subst ea
    exact ⟨_, _, r.intI, r2.intI, k _ _ _ (KA.refl _) (.bl .nil) (List.nil_sublist _)⟩
  | eq =>
    obtain ⟨pos, rfl, hm⟩ := cmpAst_out h
    refine toW (pe_cmpR (op_eqD (by have := G.un; omega)) peW peW (noMark hm)) (go fun v u H ⟨F, F2, d, d2, d', W, W2, r, r2, ea, k⟩ => ?_)
    simp only [ap2] at ea
    split at ea <;> simp only [Option.some.injEq, reduceCtorEq] at ea
    rename_i bb hb
    subst ea
    obtain ⟨p, q', h1, h2, h3, h4, h5⟩ := eqD_dp r r2 hb
    exact ⟨p, q', h1, h2, h3, h4, by rw [← h5]; exact k _ _ _ (KA.refl _) (.bl .nil) (List.nil_sublist _)⟩
  | ne =>
    obtain ⟨pos, rfl, hm⟩ := cmpAst_out h
    refine toW (pe_cmpR (op_neD (by have := G.un; omega)) peW peW (noMark hm)) (go fun v u H ⟨F, F2, d, d2, d', W, W2, r, r2, ea, k⟩ => ?_)
    simp only [ap2] at ea
    split at ea <;> simp only [Option.some.injEq, reduceCtorEq] at ea
    rename_i bb hb
    subst ea
    obtain ⟨p, q', h1, h2, h3, h4, h5⟩ := eqD_dp r r2 hb
    exact ⟨p, q', h1, h2, h3, h4, by rw [← h5]; exact k _ _ _ (KA.refl _) (.bl .nil) (List.nil_sublist _)⟩
  | ix =>
    obtain ⟨pos, rfl, hs⟩ := ixAst_out h
    refine toW (pe_ix ix_seq peW peW (plainIx hs)) (go fun v u H ⟨F, F2, d, d2, d', W, W2, r, r2, ea, k⟩ => ?_)
    cases d <;> cases d2 <;> simp only [ap2, reduceCtorEq] at ea
    · obtain ⟨p, us, e1, s, r1⟩ := r.tupI
      obtain ⟨v', W1, e2, r3, sb⟩ := r1.at_ ea
      exact .inr (.inl ⟨p, us, _, v', e1, r2.intI, s, e2, k _ _ _ (KA.refl _) r3 sb⟩)
    · obtain ⟨p, us, W0, e1, s, r1, sb0, _⟩ := r.lstI
      obtain ⟨v', W1, e2, r3, sb⟩ := r1.at_ ea
      exact .inl ⟨p, us, _, v', e1, r2.intI, SqL.of s, e2, k _ _ _ (KA.refl _) r3 (sb.trans sb0)⟩
    · obtain ⟨p, us, e1, s, r1⟩ := r.frzI
      obtain ⟨v', W1, e2, r3, sb⟩ := r1.at_ ea
      have : W1 = [] := List.sublist_nil.mp sb
      subst this
      exact .inl ⟨p, us, _, v', e1, r2.intI, s.sq, e2, k _ _ _ (KA.refl _) r3 (List.nil_sublist _)⟩
  | min =>
    refine b2 (id := "min") G h (call_min2 G.calm) (by decide +kernel) (q.mono fun v H1 q1 => q1.mono fun u H ⟨F, F2, d, d2, d', W, W2, r, r2, ea, k⟩ => ?_)
    cases d <;> cases d2 <;> simp only [ap2, Option.some.injEq, reduceCtorEq] at ea
    subst ea
    exact ⟨_, _, by rw [r.intI, r2.intI], k _ _ _ (KA.refl _) (.int .nil) (List.nil_sublist _)⟩
  | max =>
    refine b2 (id := "max") G h (call_max2 G.calm) (by decide +kernel) (q.mono fun v H1 q1 => q1.mono fun u H ⟨F, F2, d, d2, d', W, W2, r, r2, ea, k⟩ => ?_)
    cases d <;> cases d2 <;> simp only [ap2, Option.some.injEq, reduceCtorEq] at ea
    subst ea
    exact ⟨_, _, by rw [r.intI, r2.intI], k _ _ _ (KA.refl _) (.int .nil) (List.nil_sublist _)⟩
  | isin =>
    obtain ⟨pos, rfl, hm⟩ := cmpAst_out h
    refine toW (pe_cmpR (opOr op_in_seq (op_inD G.un)) peW peW (noMark hm)) (go fun v u H ⟨F, F2, d, d2, d', W, W2, r, r2, ea, k⟩ => ?_)
    by_cases hD : ∃ b ds bb, d2 = .lst b ds ∧ ¬ (flatD d && ds.all flatD) = true ∧ inD d ds = some bb ∧ d' = .bl bb
    · obtain ⟨b, ds, bb, rfl, hn, hi, rfl⟩ := hD
      right
      unfold inD at hi
      split at hi <;> try (cases hi)
      rename_i p ps hp hps
      split at hi <;> simp only [Option.some.injEq, reduceCtorEq] at hi
      rename_i hs
      simp only [Bool.and_eq_true] at hs
      subst hi
      exact ⟨p, ps, r.dp hp, r2.dp (by simp [D.toPy, hps]), hs.1, hs.2, k _ _ _ (KA.refl _) (.bl .nil) (List.nil_sublist _)⟩
    left
    have : ∃ ds, d2.els = some ds ∧ flatD d = true ∧ ds.all flatD = true ∧ d' = .bl (ds.any fun y => eqF y d) := by
      cases d2 with
      | tup ds =>
        simp only [ap2] at ea
        split at ea <;> simp only [Option.some.injEq, reduceCtorEq] at ea
        rename_i hc; simp only [Bool.and_eq_true] at hc; exact ⟨_, rfl, hc.1, hc.2, ea.symm⟩
      | lst b ds =>
        simp only [ap2] at ea
        split at ea
        · rename_i hc
          simp only [Option.some.injEq] at ea
          simp only [Bool.and_eq_true] at hc; exact ⟨_, rfl, hc.1, hc.2, ea.symm⟩
        · rename_i hc
          split at ea <;> simp only [Option.some.injEq, reduceCtorEq] at ea
          rename_i bb hb
          exact absurd ⟨b, ds, bb, rfl, hc, hb, ea.symm⟩ hD
      | _ => simp only [ap2, reduceCtorEq] at ea
    obtain ⟨ds, h1, h2, h3, rfl⟩ := this
    obtain ⟨p, us, W1, e1, s, r1, sb⟩ := r2.els h1
    refine ⟨p, us, e1, s, flat_of r h2, flats_of r1 h3, ?_⟩
    rw [if_neg Bool.false_ne_true, inV_of r h2 r1 h3]
    exact k _ _ _ (KA.refl _) (.bl .nil) (List.nil_sublist _)
  | notin =>
    obtain ⟨pos, rfl, hm⟩ := cmpAst_out h
    refine toW (pe_cmpR op_notIn_seq peW peW (noMark hm)) (go fun v u H ⟨F, F2, d, d2, d', W, W2, r, r2, ea, k⟩ => ?_)
    have : ∃ ds, d2.els = some ds ∧ flatD d = true ∧ ds.all flatD = true ∧ d' = .bl (!ds.any fun y => eqF y d) := by
      cases d2 <;> simp only [ap2, reduceCtorEq] at ea <;> (split at ea <;> simp only [Option.some.injEq, reduceCtorEq] at ea) <;>
        (rename_i hc; simp only [Bool.and_eq_true] at hc; exact ⟨_, rfl, hc.1, hc.2, ea.symm⟩)
    obtain ⟨ds, h1, h2, h3, rfl⟩ := this
    obtain ⟨p, us, W1, e1, s, r1, sb⟩ := r2.els h1
    refine ⟨p, us, e1, s, flat_of r h2, flats_of r1 h3, ?_⟩
    rw [if_pos rfl, inV_of r h2 r1 h3]
    exact k _ _ _ (KA.refl _) (.bl .nil) (List.nil_sublist _)
end
end Q

namespace Q
open PySem L2 PySem.Spec

/-! ## tests -/
def two1 : List CmpOp → List Expr → Bool
  | [_], [_] => true
  | _, _ => false
theorem two1_out {ops : List CmpOp} {bs : List Expr} (h : two1 ops bs = true) : ∃ op b, ops = [op] ∧ bs = [b] := by
  unfold two1 at h
  split at h
  · exact ⟨_, _, rfl, rfl⟩
  · cases h
def ttOk : Expr → Bool
  | .BoolOp .. => false
  | .IfExp .. => false
  | .UnaryOp .Not _ _ => false
  | .Compare _ ops bs _ => two1 ops bs
  | _ => true
theorem ttOk_cmp {a : Expr} {ops : List CmpOp} {bs : List Expr} {pos : Pos} (h : ttOk (.Compare a ops bs pos) = true) : ∃ op b, ops = [op] ∧ bs = [b] := two1_out h
def cmp1 : Expr → Bool
  | .Compare .. => true
  | _ => false
section
variable {X : Cx} {Z : EnvQ} {Γ : Gam} {EX : XK}
theorem tt_plain {e : Expr} (h : ttOk e = true) (hc : cmp1 e = false) {σ : L2.St} {H : Hp} {Q : Bool → Hp → Prop} (q : tW X e σ H fun v H' => ∃ k, TruV X.K v H' k ∧ Q k H') : ttW X e σ H Q := by
  refine toTW (pt_truth peW fun whole => ?_) q
  cases e <;> first | rfl | (simp [ttOk, cmp1] at h hc; done) | skip
  rename_i op a pos
  cases op <;> first | rfl | (simp [ttOk] at h; done)
theorem tt_gen {e : Expr} (h : ttOk e = true) {σ : L2.St} {H : Hp} {Q : Bool → Hp → Prop} (q : tW X e σ H fun v H' => ∃ k, TruV X.K v H' k ∧ Q k H') : ttW X e σ H Q := by
  cases hc : cmp1 e with
  | false => exact tt_plain h hc q
  | true =>
    cases e <;> simp only [cmp1, Bool.false_eq_true] at hc
    rename_i a ops bs pos
    have hs : ∃ op b, ops = [op] ∧ bs = [b] := by
      exact ttOk_cmp h
    obtain ⟨op, b, rfl, rfl⟩ := hs
    intro pins s I
    have e1 : isTrue (.Compare a [op] [b] pos) X.env (eval (.Compare a [op] [b] pos) X.env) = (eval (.Compare a [op] [b] pos) X.env >>= fun c => holding [c] (truthy c)) := by
      show (do let l ← eval a X.env; testChain pos l [op] [markedBehindIn op b (eval b X.env)]) = ((do let l ← eval a X.env; compareChain pos l [op] [markedBehindIn op b (eval b X.env)]) >>= fun c => holding [c] (truthy c))
      simp only [testChain, compareChain, bind_assoc]
    rw [e1]
    refine wpAny_bind (thn (q pins s I) fun c s1 ⟨v, H1, I1, r1, k, tk, qk⟩ => PySem.wpAny_holding ?_)
    exact tru_ok pins s1 σ H1 v c Q I1 r1 ⟨k, tk, qk⟩

def tailB (op : BoolOp) (y : Expr) (zs : List Expr) (pos : Pos) : Expr := match zs with
  | [] => y
  | _ => .BoolOp op (y :: zs) pos

theorem tailPE {op : BoolOp} {y : Expr} {zs : List Expr} {pos : Pos} : PE X (.BoolOp op (y :: zs) pos) (tW X (tailB op y zs pos)) := by
  cases zs with
  | nil => exact pe_one peW
  | cons z zs => exact peW
theorem tailAnd {y : Expr} {zs : List Expr} {pos : Pos} : PW X (.BoolOp .And (y :: zs) pos) (ttW X (tailB .And y zs pos)) := by
  cases zs with
  | nil => exact pw_and1 ptW
  | cons z zs => exact ⟨fun wh pins s σ H Q I h => h pins s I⟩
theorem tailOr {y : Expr} {zs : List Expr} {pos : Pos} : PW X (.BoolOp .Or (y :: zs) pos) (ttW X (tailB .Or y zs pos)) := by
  cases zs with
  | nil => exact pw_or1 ptW
  | cons z zs => exact ⟨fun wh pins s σ H Q I h => h pins s I⟩

/-! ## pure expressions in the text -/
def chkP (Γ : Gam) : P → Expr → Bool
  | .var i, e => match e with | .Name x _ => varOk Γ i x | _ => false
  | .int i, e => match e with | .Constant (.int j) _ _ => decide (i = j) | _ => false
  | .bl b, e => match e with | .Constant (.bool c) _ _ => decide (b = c) | _ => false
  | .non, e => match e with | .Constant .none _ _ => true | _ => false
  | .str s, e => match e with | .Constant (.str t) _ _ => decide (s = t) | _ => false
  | .glob x, e => match e with | .Name y _ => decide (x = y) && glOk Γ x && decide (x ∈ Γ.gs) | _ => false
  | .o1 o a, e => match ast1 Γ o e with | some e' => chkP Γ a e' | none => false
  | .o2 o a b, e => match ast2 Γ o e with | some (x, y) => chkP Γ a x && chkP Γ b y | none => false
  | .and a b, e => match e with | .BoolOp .And (x :: y :: zs) pos => chkP Γ a x && chkP Γ b (tailB .And y zs pos) | _ => false
  | .or a b, e => match e with | .BoolOp .Or (x :: y :: zs) pos => chkP Γ a x && chkP Γ b (tailB .Or y zs pos) | _ => false
  | .ife c a b, e => match e with | .IfExp t x y _ => chkP Γ c t && chkP Γ a x && chkP Γ b y | _ => false

theorem ast1_ttOk {o : O1} {e a : Expr} (h : ast1 Γ o e = some a) : (∃ pos, o = .not ∧ e = .UnaryOp .Not a pos) ∨ ttOk e = true := by
  cases o with
  | neg =>
    cases e <;> simp only [ast1, reduceCtorEq] at h
    rename_i op a' pos
    cases op <;> simp only [Option.some.injEq, reduceCtorEq] at h
    exact .inr rfl
  | not =>
    cases e <;> simp only [ast1, reduceCtorEq] at h
    rename_i op a' pos
    cases op <;> simp only [Option.some.injEq, reduceCtorEq] at h
    subst h
    exact .inl ⟨_, rfl, rfl⟩
  | len => obtain ⟨f, pos, rfl, _⟩ := callB1_out h; exact .inr rfl
  | abs => obtain ⟨f, pos, rfl, _⟩ := callB1_out h; exact .inr rfl
  | int1 => obtain ⟨f, pos, rfl, _⟩ := callB1_out h; exact .inr rfl
  | isN => obtain ⟨j, p, pos, rfl⟩ := noneCmp_out h; exact .inr rfl
  | ntN => obtain ⟨j, p, pos, rfl⟩ := noneCmp_out h; exact .inr rfl
  | isTr => obtain ⟨j, p, pos, rfl⟩ := truCmp_out h; exact .inr rfl
  | eqE => obtain ⟨p, pos, rfl⟩ := empCmp_out h; exact .inr rfl
  | neE => obtain ⟨p, pos, rfl⟩ := empCmp_out h; exact .inr rfl
  | isi ts =>
    refine .inr ?_
    simp only [ast1] at h
    split at h
    · rename_i hc; obtain ⟨f, pos, rfl, _⟩ := callB2_out hc; rfl
    · rename_i hc; obtain ⟨f, pos, rfl, _⟩ := callB2_out hc; rfl
    · cases h
theorem ast2_ttOk {o : O2} {e a b : Expr} (h : ast2 Γ o e = some (a, b)) : ttOk e = true := by
  cases o with
  | add | sub | mul | fdiv | mod | pow | shl | shr | band => obtain ⟨pos, rfl⟩ := binAst_out h; rfl
  | lt | le | gt | ge | eq | ne | isin | notin => obtain ⟨pos, rfl, _⟩ := cmpAst_out h; rfl
  | ix => obtain ⟨pos, rfl, _⟩ := ixAst_out h; rfl
  | min | max => obtain ⟨f, pos, rfl, _⟩ := callB2_out h; rfl

/-- a conditional expression as a test -/
theorem ifT {t a b : Expr} {pos : Pos} {σ : L2.St} {H : Hp} {Q : Bool → Hp → Prop} (q : ttW X t σ H fun c H1 => if c = true then ttW X a σ H1 Q else ttW X b σ H1 Q) : ttW X (.IfExp t a b pos) σ H Q := by
  intro pins s I
  refine PyProof.Rows.isTrue_IfExp (thn (q pins s I) fun c s1 ⟨H1, I1, q1⟩ => ?_)
  cases c with
  | true => exact q1 pins s1 I1
  | false => exact q1 pins s1 I1
/-- the value of a pure expression -/
structure PV (K : PySem.W.Frag) (H : Hp) (F : Addr → Prop) (ws : List (List Addr)) (p : P) (d : D) (v : V) (H' : Hp) : Prop where
  ka : KA H H'
  ex : ∃ W1, Reps K H' F [d] [v] W1 ∧ (∀ a ∈ W1, a ∈ ws.flatten) ∧ ∀ i, p.root = some i → ∀ a ∈ W1, a ∈ ws.getD i []

theorem ap1_noOwn {o : O1} {d d' : D} (h : ap1 o d = some d') : True := trivial

theorem soundP (G : Good X Z Γ EX) : ∀ (p : P) (e : Expr), chkP Γ p e = true → ∀ {L : Lcs} {σ : L2.St} {ws : List (List Addr)} {H : Hp} {F : Addr → Prop} {d : D}, LReps X.K H F L σ ws → pur Z.G p L = some d →
    (∀ {Q : VK}, (∀ v H', PV X.K H F ws p d v H' → Q v H') → tW X e σ H Q) ∧ ∀ {k : Bool} {Q : Bool → Hp → Prop}, tru d = some k → (∀ H', KA H H' → Q k H') → ttW X e σ H Q := by
  have tt : ∀ {p : P} {e : Expr} {L : Lcs} {σ : L2.St} {ws : List (List Addr)} {H : Hp} {F : Addr → Prop} {d : D}, ttOk e = true → (∀ {Q : VK}, (∀ v H', PV X.K H F ws p d v H' → Q v H') → tW X e σ H Q) →
      (∀ {Q : VK}, (∀ v H', PV X.K H F ws p d v H' → Q v H') → tW X e σ H Q) ∧ ∀ {k : Bool} {Q : Bool → Hp → Prop}, tru d = some k → (∀ H', KA H H' → Q k H') → ttW X e σ H Q := by
    intro p e L σ ws H F d h1 h2
    refine ⟨h2, fun {k Q} et q => tt_gen h1 (h2 fun v H' pv => ?_)⟩
    obtain ⟨W1, r, _⟩ := pv.ex
    exact ⟨k, tru_of r et, q _ pv.ka⟩
  intro p
  induction p with
  | var i =>
    intro e h L σ ws H F d l hp
    simp only [chkP] at h
    split at h <;> try (exact absurd h Bool.false_ne_true)
    rename_i x pos
    refine tt (L := L) rfl fun {Q} q => ?_
    simp only [pur] at hp
    split at hp <;> try (simp only [Option.some.injEq, reduceCtorEq] at hp)
    rename_i d0 hd
    subst hp
    obtain ⟨v, e1, r, hi⟩ := l.get hd
    exact toW (G.var h) ⟨v, e1, q v H ⟨KA.refl _, _, r, fun a m => flat_mem m, fun j ej a m => by simp only [P.root, Option.some.injEq] at ej; subst ej; exact m⟩⟩
  | int i =>
    intro e h L σ ws H F d l hp
    simp only [chkP] at h
    split at h <;> try (exact absurd h Bool.false_ne_true)
    simp only [decide_eq_true_eq] at h
    subst h
    refine tt (L := L) rfl fun {Q} q => ?_
    simp only [pur, Option.some.injEq] at hp
    subst hp
    exact toW pe_int (q _ H ⟨KA.refl _, [], .int .nil, (fun a m => nomatch m), fun _ _ a m => nomatch m⟩)
  | bl b =>
    intro e h L σ ws H F d l hp
    simp only [chkP] at h
    split at h <;> try (exact absurd h Bool.false_ne_true)
    simp only [decide_eq_true_eq] at h
    subst h
    refine tt (L := L) rfl fun {Q} q => ?_
    simp only [pur, Option.some.injEq] at hp
    subst hp
    exact toW pe_bl (q _ H ⟨KA.refl _, [], .bl .nil, (fun a m => nomatch m), fun _ _ a m => nomatch m⟩)
  | non =>
    intro e h L σ ws H F d l hp
    simp only [chkP] at h
    split at h <;> try (exact absurd h Bool.false_ne_true)
    refine tt (L := L) rfl fun {Q} q => ?_
    simp only [pur, Option.some.injEq] at hp
    subst hp
    exact toW pe_non (q _ H ⟨KA.refl _, [], .non .nil, (fun a m => nomatch m), fun _ _ a m => nomatch m⟩)
  | str s =>
    intro e h L σ ws H F d l hp
    simp only [chkP] at h
    split at h <;> try (exact absurd h Bool.false_ne_true)
    simp only [decide_eq_true_eq] at h
    subst h
    refine tt (L := L) rfl fun {Q} q => ?_
    simp only [pur, Option.some.injEq] at hp
    subst hp
    exact toW pe_str (q _ H ⟨KA.refl _, [], .str .nil, (fun a m => nomatch m), fun _ _ a m => nomatch m⟩)
  | glob x =>
    intro e h L σ ws H F d l hp
    simp only [chkP] at h
    split at h <;> try (exact absurd h Bool.false_ne_true)
    simp only [Bool.and_eq_true, decide_eq_true_eq] at h
    obtain ⟨⟨rfl, h1⟩, h2⟩ := h
    refine tt (L := L) rfl fun {Q} q => ?_
    simp only [pur] at hp
    obtain ⟨v, u, m, rv, rr⟩ := G.gs _ h2 _ hp
    obtain ⟨g1, g2, g3⟩ := G.gl h1
    exact toW (pe_glob g1 m rv g2) (q _ H ⟨KA.refl _, [], rr H F, (fun a m => nomatch m), fun _ _ a m => nomatch m⟩)
  | o1 o a ih =>
    intro e h L σ ws H F d l hp
    simp only [chkP] at h
    split at h <;> try (exact absurd h Bool.false_ne_true)
    rename_i e' he
    simp only [pur] at hp
    split at hp <;> try (simp only [reduceCtorEq] at hp)
    rename_i da hda
    obtain ⟨i1, i2⟩ := ih e' h l hda
    have val : ∀ {Q : VK}, (∀ v H', PV X.K H F ws (.o1 o a) d v H' → Q v H') → tW X e σ H Q := fun {Q} q => by
      refine o1_ok G he (i1 fun v H1 pv => ?_)
      obtain ⟨W1, r, _⟩ := pv.ex
      refine ⟨F, da, d, W1, r, hp, fun v' H' k rr => q v' H' ⟨pv.ka.trans k, [], rr F, (fun a m => nomatch m), fun _ _ a m => nomatch m⟩⟩
    rcases ast1_ttOk he with ⟨pos, rfl, rfl⟩ | ht
    · refine ⟨val, fun {k Q} et q => ?_⟩
      simp only [ap1] at hp
      split at hp <;> try (simp only [Option.some.injEq, reduceCtorEq] at hp)
      rename_i b hb
      subst hp
      simp only [tru, Option.some.injEq] at et
      subst et
      exact toTW (pt_not ptW) (i2 hb fun H' k => q H' k)
    · exact tt (L := L) ht val
  | o2 o a b iha ihb =>
    intro e h L σ ws H F d l hp
    simp only [chkP] at h
    split at h <;> try (exact absurd h Bool.false_ne_true)
    rename_i x y he
    simp only [Bool.and_eq_true] at h
    simp only [pur] at hp
    split at hp <;> try (simp only [reduceCtorEq] at hp)
    rename_i da db hda hdb
    refine tt (L := L) (ast2_ttOk he) fun {Q} q => ?_
    refine o2_ok G he ((iha x h.1 l hda).1 fun v H1 pv => (ihb y h.2 (pv.ka.lreps l) hdb).1 fun u H2 pu => ?_)
    obtain ⟨W1, r, m1, m2⟩ := pv.ex
    obtain ⟨W2, r2, _⟩ := pu.ex
    refine ⟨F, F, da, db, d, W1, W2, pu.ka.reps r, r2, hp, fun v' H' W' k rr sb => q v' H' ⟨(pv.ka.trans pu.ka).trans k, W', rr, fun a m => m1 a (sb.subset m), fun i hi a m => ?_⟩⟩
    cases o <;> simp only [P.root, reduceCtorEq] at hi
    exact m2 i hi a (sb.subset m)
  | and a b iha ihb =>
    intro e h L σ ws H F d l hp
    simp only [chkP] at h
    split at h <;> try (exact absurd h Bool.false_ne_true)
    rename_i x y zs pos
    simp only [Bool.and_eq_true] at h
    simp only [pur] at hp
    split at hp <;> try (simp only [Option.some.injEq, reduceCtorEq] at hp)
    · rename_i hda
      obtain ⟨a1, a2⟩ := iha x h.1 l hda
      refine ⟨fun {Q} q => toW (pe_and peW tailPE) (a1 fun v H1 pv => ?_), fun {k Q} et q => toTW (PW.pt (pw_and ptW tailAnd)) (a2 (k := true) rfl fun H1 k1 => ?_)⟩
      · obtain ⟨W1, r, _⟩ := pv.ex
        refine ⟨true, r.blI, ?_⟩
        rw [if_pos rfl]
        refine (ihb _ h.2 (pv.ka.lreps l) hp).1 fun u H2 pu => q u H2 ⟨pv.ka.trans pu.ka, ?_⟩
        obtain ⟨W2, r2, m, _⟩ := pu.ex
        exact ⟨W2, r2, m, fun i hi => by simp [P.root] at hi⟩
      · rw [if_pos rfl]
        exact (ihb _ h.2 (k1.lreps l) hp).2 et fun H2 k2 => q H2 (k1.trans k2)
    · rename_i hda
      subst hp
      obtain ⟨a1, a2⟩ := iha x h.1 l hda
      refine ⟨fun {Q} q => toW (pe_and peW tailPE) (a1 fun v H1 pv => ?_), fun {k Q} et q => toTW (PW.pt (pw_and ptW tailAnd)) (a2 (k := false) rfl fun H1 k1 => ?_)⟩
      · obtain ⟨W1, r, _⟩ := pv.ex
        refine ⟨false, r.blI, ?_⟩
        rw [if_neg Bool.false_ne_true]
        exact q _ H1 ⟨pv.ka, [], .bl .nil, (fun a m => nomatch m), fun _ _ a m => nomatch m⟩
      · rw [if_neg Bool.false_ne_true]
        simp only [tru, Option.some.injEq] at et
        subst et
        exact q H1 k1
  | or a b iha ihb =>
    intro e h L σ ws H F d l hp
    simp only [chkP] at h
    split at h <;> try (exact absurd h Bool.false_ne_true)
    rename_i x y zs pos
    simp only [Bool.and_eq_true] at h
    simp only [pur] at hp
    split at hp <;> try (simp only [Option.some.injEq, reduceCtorEq] at hp)
    · rename_i hda
      obtain ⟨a1, a2⟩ := iha x h.1 l hda
      refine ⟨fun {Q} q => toW (pe_or peW tailPE) (a1 fun v H1 pv => ?_), fun {k Q} et q => toTW (PW.pt (pw_or ptW tailOr)) (a2 (k := false) rfl fun H1 k1 => ?_)⟩
      · obtain ⟨W1, r, _⟩ := pv.ex
        refine ⟨false, r.blI, ?_⟩
        rw [if_neg Bool.false_ne_true]
        refine (ihb _ h.2 (pv.ka.lreps l) hp).1 fun u H2 pu => q u H2 ⟨pv.ka.trans pu.ka, ?_⟩
        obtain ⟨W2, r2, m, _⟩ := pu.ex
        exact ⟨W2, r2, m, fun i hi => by simp [P.root] at hi⟩
      · rw [if_neg Bool.false_ne_true]
        exact (ihb _ h.2 (k1.lreps l) hp).2 et fun H2 k2 => q H2 (k1.trans k2)
    · rename_i hda
      subst hp
      obtain ⟨a1, a2⟩ := iha x h.1 l hda
      refine ⟨fun {Q} q => toW (pe_or peW tailPE) (a1 fun v H1 pv => ?_), fun {k Q} et q => toTW (PW.pt (pw_or ptW tailOr)) (a2 (k := true) rfl fun H1 k1 => ?_)⟩
      · obtain ⟨W1, r, _⟩ := pv.ex
        refine ⟨true, r.blI, ?_⟩
        rw [if_pos rfl]
        exact q _ H1 ⟨pv.ka, [], .bl .nil, (fun a m => nomatch m), fun _ _ a m => nomatch m⟩
      · rw [if_pos rfl]
        simp only [tru, Option.some.injEq] at et
        subst et
        exact q H1 k1
  | ife c a b ihc iha ihb =>
    intro e h L σ ws H F d l hp
    simp only [chkP] at h
    split at h <;> try (exact absurd h Bool.false_ne_true)
    rename_i t x y pos
    simp only [Bool.and_eq_true] at h
    simp only [pur] at hp
    split at hp <;> try (simp only [reduceCtorEq] at hp)
    rename_i dc hdc
    obtain ⟨c1, c2⟩ := ihc t h.1.1 l hdc
    split at hp <;> try (simp only [reduceCtorEq] at hp)
    · rename_i hk
      refine ⟨fun {Q} q => toW (pe_ifExp ptW peW peW) (c2 hk fun H1 k1 => ?_), fun {k Q} et q => ifT (c2 hk fun H1 k1 => ?_)⟩
      · rw [if_pos rfl]
        refine (iha _ h.1.2 (k1.lreps l) hp).1 fun u H2 pu => q u H2 ⟨k1.trans pu.ka, ?_⟩
        obtain ⟨W2, r2, m, _⟩ := pu.ex
        exact ⟨W2, r2, m, fun i hi => by simp [P.root] at hi⟩
      · rw [if_pos rfl]
        exact (iha _ h.1.2 (k1.lreps l) hp).2 et fun H2 k2 => q H2 (k1.trans k2)
    · rename_i hk
      refine ⟨fun {Q} q => toW (pe_ifExp ptW peW peW) (c2 hk fun H1 k1 => ?_), fun {k Q} et q => ifT (c2 hk fun H1 k1 => ?_)⟩
      · rw [if_neg Bool.false_ne_true]
        refine (ihb _ h.2 (k1.lreps l) hp).1 fun u H2 pu => q u H2 ⟨k1.trans pu.ka, ?_⟩
        obtain ⟨W2, r2, m, _⟩ := pu.ex
        exact ⟨W2, r2, m, fun i hi => by simp [P.root] at hi⟩
      · rw [if_neg Bool.false_ne_true]
        exact (ihb _ h.2 (k1.lreps l) hp).2 et fun H2 k2 => q H2 (k1.trans k2)
end
end Q

namespace Q
open PySem L2 PySem.Spec

/-! ## what lies behind -/
def PostVs (K : PySem.W.Frag) (H : Hp) (F : Addr → Prop) (W : List Addr) (σ : L2.St) (ds : List D) (L' : Lcs) (vs : List V) (H' : Hp) : Prop :=
  ∃ (F' : Addr → Prop) (W1 : List Addr) (ws' : List (List Addr)), Reps K H' F' ds vs W1 ∧ LReps K H' F' L' σ ws' ∧ Wf H' F' (W1 ++ ws'.flatten) ∧ Ext H F W H' F' (W1 ++ ws'.flatten)
def PostR (K : PySem.W.Frag) (H : Hp) (F : Addr → Prop) (W : List Addr) (σ : L2.St) (d : D) (L' : Lcs) (v : V) (H' : Hp) : Prop :=
  ∃ (F' : Addr → Prop) (W1 : List Addr) (ws' : List (List Addr)), Reps K H' F' [d] [v] W1 ∧ LReps K H' F' L' σ ws' ∧ Wf H' F' ws'.flatten ∧ Ext H F W H' F' ws'.flatten
def PostT (K : PySem.W.Frag) (H : Hp) (F : Addr → Prop) (W : List Addr) (σ : L2.St) (L' : Lcs) (H' : Hp) : Prop :=
  ∃ (F' : Addr → Prop) (ws' : List (List Addr)), LReps K H' F' L' σ ws' ∧ Wf H' F' ws'.flatten ∧ Ext H F W H' F' ws'.flatten
theorem PostVs.toR {K : PySem.W.Frag} {H H' : Hp} {F : Addr → Prop} {W : List Addr} {σ : L2.St} {d : D} {L' : Lcs} {v : V} (h : PostVs K H F W σ [d] L' [v] H') : PostR K H F W σ d L' v H' := by
  obtain ⟨F', W1, ws', r, l, w, x⟩ := h
  exact ⟨F', W1, ws', r, l, w.right, x.sub fun c m => List.mem_append_right _ m⟩

/-- a result, and what is wanted of it -/
def After {α : Type} (K : PySem.W.Frag) (mg : Str → Option Value) (EX : XK) (H : Hp) (F : Addr → Prop) (W : List Addr) (r : Res (α × Lcs)) (post : α → Lcs → Prop) : Prop :=
  match r with
  | .ok (a, L') => post a L'
  | .exn c x => ∀ cls dd H' F', ExOk K mg H' F' c x cls dd → Ext H F W H' F' [] → EX cls dd H'
  | .bad => False
section
variable {K : PySem.W.Frag} {mg : Str → Option Value} {EX : XK} {H H1 : Hp} {F F1 : Addr → Prop} {W W1 W2 : List Addr} {α : Type} {r : Res (α × Lcs)} {post : α → Lcs → Prop}
theorem After.step (h : After K mg EX H F W r post) (x : Ext H F W H1 F1 W1) (s : ∀ a ∈ W2, a ∈ W1) : After K mg EX H1 F1 W2 r post := by
  cases r with
  | ok a => exact h
  | exn c d => exact fun cls dd H' F' e y => h cls dd H' F' e (x.trans (y.wid s))
  | bad => exact h
end

section
variable {X : Cx} {Z : EnvQ} {Γ : Gam} {EX : XK} {σ : L2.St} {H : Hp} {F : Addr → Prop} {W : List Addr}
def GoalE (X : Cx) (EX : XK) (e : Expr) (σ : L2.St) (H : Hp) (F : Addr → Prop) (W : List Addr) (r : Res (D × Lcs)) : Prop :=
  ∀ Q : VK, After X.K X.mg EX H F W r (fun d L' => ∀ v H', PostVs X.K H F W σ [d] L' [v] H' → Q v H') → tW X e σ H Q
def GoalR (X : Cx) (EX : XK) (e : Expr) (σ : L2.St) (H : Hp) (F : Addr → Prop) (W : List Addr) (r : Res (D × Lcs)) : Prop :=
  ∀ Q : VK, After X.K X.mg EX H F W r (fun d L' => ∀ v H', PostR X.K H F W σ d L' v H' → Q v H') → tW X e σ H Q
def GoalT (X : Cx) (EX : XK) (e : Expr) (σ : L2.St) (H : Hp) (F : Addr → Prop) (W : List Addr) (r : Res (Bool × Lcs)) : Prop :=
  ∀ Q : Bool → Hp → Prop, After X.K X.mg EX H F W r (fun b L' => ∀ H', PostT X.K H F W σ L' H' → Q b H') → ttW X e σ H Q
def GoalA (X : Cx) (EX : XK) (es : List Expr) (σ : L2.St) (H : Hp) (F : Addr → Prop) (W : List Addr) (r : Res (List D × Lcs)) : Prop :=
  ∀ Q : List V → Hp → Prop, After X.K X.mg EX H F W r (fun ds L' => ∀ vs H', PostVs X.K H F W σ ds L' vs H' → Q vs H') → taW X es σ H Q
theorem GoalE.use {e : Expr} {r : Res (D × Lcs)} {β : Type} {f : D × Lcs → Res (β × Lcs)} {post : β → Lcs → Prop} (g : GoalE X EX e σ H F W r) (h : After X.K X.mg EX H F W (r.bind f) post) {R : VK}
    (k : ∀ d L1 v H1, After X.K X.mg EX H F W (f (d, L1)) post → PostVs X.K H F W σ [d] L1 [v] H1 → R v H1) : tW X e σ H R := by
  refine g R ?_
  cases r with
  | ok a => obtain ⟨d, L1⟩ := a; exact fun v H' p => k d L1 v H' h p
  | exn c x => exact h
  | bad => exact h
theorem GoalR.use {e : Expr} {r : Res (D × Lcs)} {β : Type} {f : D × Lcs → Res (β × Lcs)} {post : β → Lcs → Prop} (g : GoalR X EX e σ H F W r) (h : After X.K X.mg EX H F W (r.bind f) post) {R : VK}
    (k : ∀ d L1 v H1, After X.K X.mg EX H F W (f (d, L1)) post → PostR X.K H F W σ d L1 v H1 → R v H1) : tW X e σ H R := by
  refine g R ?_
  cases r with
  | ok a => obtain ⟨d, L1⟩ := a; exact fun v H' p => k d L1 v H' h p
  | exn c x => exact h
  | bad => exact h
theorem GoalT.use {e : Expr} {r : Res (Bool × Lcs)} {β : Type} {f : Bool × Lcs → Res (β × Lcs)} {post : β → Lcs → Prop} (g : GoalT X EX e σ H F W r) (h : After X.K X.mg EX H F W (r.bind f) post) {R : Bool → Hp → Prop}
    (k : ∀ d L1 H1, After X.K X.mg EX H F W (f (d, L1)) post → PostT X.K H F W σ L1 H1 → R d H1) : ttW X e σ H R := by
  refine g R ?_
  cases r with
  | ok a => obtain ⟨d, L1⟩ := a; exact fun H' p => k d L1 H' h p
  | exn c x => exact h
  | bad => exact h
theorem GoalA.use {es : List Expr} {r : Res (List D × Lcs)} {β : Type} {f : List D × Lcs → Res (β × Lcs)} {post : β → Lcs → Prop} (g : GoalA X EX es σ H F W r) (h : After X.K X.mg EX H F W (r.bind f) post) {R : List V → Hp → Prop}
    (k : ∀ d L1 v H1, r = .ok (d, L1) → After X.K X.mg EX H F W (f (d, L1)) post → PostVs X.K H F W σ d L1 v H1 → R v H1) : taW X es σ H R := by
  refine g R ?_
  cases r with
  | ok a => obtain ⟨d, L1⟩ := a; exact fun v H' p => k d L1 v H' rfl h p
  | exn c x => exact h
  | bad => exact h
theorem After.of {α : Type} {K : PySem.W.Frag} {mg : Str → Option Value} {o : Option α} {L : Lcs} {post : α → Lcs → Prop} (h : After K mg EX H F W ((Res.of o).bind fun x => .ok (x, L)) post) : ∃ x, o = some x ∧ post x L := by
  cases o with
  | none => exact h.elim
  | some x => exact ⟨x, rfl, h⟩
theorem After.ofB {α β : Type} {K : PySem.W.Frag} {mg : Str → Option Value} {o : Option α} {f : α → Res (β × Lcs)} {post : β → Lcs → Prop} (h : After K mg EX H F W ((Res.of o).bind f) post) : ∃ x, o = some x ∧ After K mg EX H F W (f x) post := by
  cases o with
  | none => exact h.elim
  | some x => exact ⟨x, rfl, h⟩
theorem After.bool {β : Type} {K : PySem.W.Frag} {mg : Str → Option Value} {d : D} {f : Bool → Res (β × Lcs)} {post : β → Lcs → Prop} (h : After K mg EX H F W ((bool? d).bind f) post) : ∃ k, d = .bl k ∧ After K mg EX H F W (f k) post := by
  cases d with
  | bl k => exact ⟨k, rfl, h⟩
  | _ => exact h.elim

/-! ### slots frozen -/
theorem fz_one {K : PySem.W.Frag} {d : D} {v : V} {W1 : List Addr} {F' : Addr → Prop} (r : Reps K H F [d] [v] W1) (hF : ∀ a, F a → F' a) (hW : ∀ a ∈ W1, F' a) : Reps K H F' [d.fz] [v] [] := by
  have := r.fz hF hW
  simpa [D.fzs] using this
theorem LReps.up {K : PySem.W.Frag} {F' : Addr → Prop} {L : Lcs} {ws : List (List Addr)} (l : LReps K H F L σ ws) (hF : ∀ a, F a → F' a) : LReps K H F' L σ ws :=
  l.frame (B := []) (fun a o h _ => h) (fun a m => nomatch m) (fun a _ m => nomatch m) (fun a _ m => nomatch m) hF
theorem Reps.up {K : PySem.W.Frag} {F' : Addr → Prop} {ds : List D} {vs : List V} {W1 : List Addr} (r : Reps K H F ds vs W1) (hF : ∀ a, F a → F' a) : Reps K H F' ds vs W1 :=
  r.frame (B := []) (fun a o h _ => h) (fun a m => nomatch m) (fun a _ m => nomatch m) (fun a _ m => nomatch m) hF
/-- the slot i is frozen: its addresses go to those that stay; the rest W0 ++ .. is as before -/
theorem freeze {K : PySem.W.Frag} {L : Lcs} {ws : List (List Addr)} {W0 : List Addr} (l : LReps K H F L σ ws) (w : Wf H F (W0 ++ ws.flatten)) (i : Nat) :
    LReps K H (fun a => F a ∨ a ∈ ws.getD i []) (fzAt L i) σ (ws.set i []) ∧ Wf H (fun a => F a ∨ a ∈ ws.getD i []) (W0 ++ (ws.set i []).flatten) ∧ Ext H F (W0 ++ ws.flatten) H (fun a => F a ∨ a ∈ ws.getD i []) (W0 ++ (ws.set i []).flatten) := by
  have sb : (ws.set i []).flatten.Sublist ws.flatten := flat_none i
  refine ⟨?_, ⟨w.nd.sublist (List.Sublist.append (List.Sublist.refl _) sb), fun a m z => ?_, fun a f => ?_⟩, ⟨fun a o h _ => h, fun a m => .inl ?_, fun a f => .inl f, fun a f => ?_, fun a h => h⟩⟩
  · unfold fzAt
    cases e : L[i]? with
    | none =>
      have : L.length ≤ i := List.getElem?_eq_none_iff.mp e
      have hl := l.length
      rw [List.set_eq_of_length_le (by omega)]
      exact l.up fun a f => .inl f
    | some o =>
      cases o with
      | none =>
        have : ws.set i [] = ws ∨ True := .inr trivial
        have l2 := l.forget i
        have e2 : L.set i none = L := by
          apply List.ext_getElem?
          intro j
          by_cases hj : i = j
          · subst hj
            rw [e, List.getElem?_set_self (List.getElem?_eq_some_iff.mp e).1]
          · rw [List.getElem?_set_ne hj]
        rw [e2] at l2
        exact l2.up fun a f => .inl f
      | some d =>
        obtain ⟨v, e1, r, hi⟩ := l.get e
        have r' := fz_one (F' := fun a => F a ∨ a ∈ ws.getD i []) r (fun a f => .inl f) (fun a m => .inr m)
        exact (l.up (F' := fun a => F a ∨ a ∈ ws.getD i []) fun a f => .inl f).put e1 r'
  · rcases z with z | z
    · rcases List.mem_append.mp m with m | m
      · exact w.dj a (List.mem_append_left _ m) z
      · exact w.dj a (List.mem_append_right _ (sb.subset m)) z
    · have hi : i < ws.length := by
        by_cases hi : i < ws.length
        · exact hi
        · rw [List.getD_eq_getElem?_getD, List.getElem?_eq_none (by omega)] at z; simp at z
      have nd := w.nd
      have p := flat_take (ws := ws) (i := i) hi
      rcases List.mem_append.mp m with m | m
      · have := List.nodup_append.mp nd
        exact this.2.2 a m a (p.mem_iff.mpr (List.mem_append_left _ z)) rfl
      · have nd2 := p.nodup_iff.mp (List.nodup_append.mp nd).2.1
        exact (List.nodup_append.mp nd2).2.2 a z a m rfl
  · rcases f with f | f
    · exact w.tr a f
    · exact (l.muts a (flat_mem f)).some
  · rcases List.mem_append.mp m with m | m
    · exact List.mem_append_left _ m
    · exact List.mem_append_right _ (sb.subset m)
  · rcases f with f | f
    · exact .inl f
    · exact .inr (.inl (List.mem_append_right _ (flat_mem f)))

/-- a pure expression's value for keeps -/
theorem keep_ok (G : Good X Z Γ EX) {p : P} {e : Expr} (h : chkP Γ p e = true) {L : Lcs} {ws : List (List Addr)} (l : LReps X.K H F L σ ws) (w : Wf H F ws.flatten) : GoalE X EX e σ H F ws.flatten (keepP Z.G p L) := by
  intro Q q
  unfold keepP at q
  cases hp : pur Z.G p L with
  | none => rw [hp] at q; exact q.elim
  | some d =>
    rw [hp] at q
    simp only at q
    refine (soundP G p e h l hp).1 fun v H' pv => ?_
    obtain ⟨W1, r, m1, m2⟩ := pv.ex
    split at q
    · rename_i hn
      have e1 := r.noOwn (by simpa [D.noOwns] using hn)
      subst e1
      exact q v H' ⟨F, [], ws, r, pv.ka.lreps l, by simpa using pv.ka.wf w, by simpa using pv.ka.ext⟩
    · split at q
      · rename_i i hi
        obtain ⟨l2, w2, x2⟩ := freeze (W0 := []) (pv.ka.lreps l) (by simpa using pv.ka.wf w) i
        refine q v H' ⟨_, [], _, fz_one r (fun a f => .inl f) (fun a m => .inr (m2 i hi a m)), l2, by simpa using w2, ?_⟩
        exact (pv.ka.ext (F := F) (W := ws.flatten)).trans (by simpa using x2)
      · exact q.elim
end
end Q

namespace Q
open PySem L2 PySem.Spec

/-! ## targets -/
def tgW (X : Cx) (e : Expr) : TG := fun v σ H Q => ∀ pins s u, Inv X pins σ H s → RelV v u → wpAny (model X.prog X.w) X.A (assign e X.env u) (fun _ s' => ∃ σ' H', Inv X pins σ' H' s' ∧ Q σ' H') X.xe s
theorem pgW {X : Cx} {e : Expr} : PG X e (tgW X e) := ⟨fun pins s σ H v u Q I r h => h pins s u I r⟩
theorem toG {X : Cx} {e : Expr} {t : TG} (h : PG X e t) {v : V} {σ : L2.St} {H : Hp} {Q : L2.St → Hp → Prop} (q : t v σ H Q) : tgW X e v σ H Q := fun pins s u I r => h.run pins s σ H v u Q I r q

def nmOk (Γ : Gam) (i : Nat) : Expr → Bool
  | .Name x _ => decide (Γ.N[i]? = some x) && decide (x ∈ Γ.wr)
  | _ => false
def nmsOk (Γ : Gam) : List Nat → List Expr → Bool
  | [], [] => true
  | i :: is, e :: es => nmOk Γ i e && nmsOk Γ is es
  | _, _ => false
def chkTg (Γ : Gam) : Tg → Expr → Bool
  | .nm i, e => nmOk Γ i e
  | .tup is, e => match e with | .Tuple es _ _ => nmsOk Γ is es | _ => false
def Tg.slots : Tg → List Nat
  | .nm i => [i]
  | .tup is => is
def setAll (σ : L2.St) : List Nat → List V → L2.St
  | i :: is, v :: vs => setAll (σ.set i (some v)) is vs
  | _, _ => σ
def setAllL (L : Lcs) : List Nat → List D → Lcs
  | i :: is, d :: ds => setAllL (L.set i (some d)) is ds
  | _, _ => L
def setAllW (ws : List (List Addr)) : List Nat → List (List Addr) → List (List Addr)
  | i :: is, w :: r => setAllW (ws.set i w) is r
  | _, _ => ws
theorem foldl_setAll : ∀ (is : List Nat) (ds : List D) (L : Lcs), (is.zip ds).foldl (fun L p => L.set p.1 (some p.2)) L = setAllL L is ds
  | [], _, _ => by simp [setAllL]
  | _ :: _, [], _ => by simp [setAllL]
  | i :: is, d :: ds, L => by simp only [List.zip_cons_cons, List.foldl_cons, setAllL]; exact foldl_setAll is ds _

section
variable {X : Cx} {Z : EnvQ} {Γ : Gam} {EX : XK} {K : PySem.W.Frag} {σ : L2.St} {H : Hp} {F : Addr → Prop} {W : List Addr}
theorem nmOk_out {i : Nat} {e : Expr} (h : nmOk Γ i e = true) : ∃ x pos, e = .Name x pos ∧ Γ.N[i]? = some x ∧ x ∈ Γ.wr := by
  cases e <;> simp only [nmOk, Bool.and_eq_true, decide_eq_true_eq, Bool.false_eq_true] at h
  exact ⟨_, _, rfl, h.1, h.2⟩
theorem nm_pg (G : Good X Z Γ EX) {i : Nat} {e : Expr} (h : nmOk Γ i e = true) : PG X e (gName i) := by
  obtain ⟨x, pos, rfl, h1, h2⟩ := nmOk_out h
  obtain ⟨a, b⟩ := G.wr x h2
  exact pg_name (by rw [G.N]; exact G.nd) (by rw [G.N]; exact h1) a b

/-- storing into slots -/
theorem store_one {L : Lcs} {ws : List (List Addr)} {i : Nat} {d : D} {v : V} {W1 W2 : List Addr} (l : LReps K H F L σ ws) (r : Reps K H F [d] [v] W1) (w : Wf H F (W1 ++ (W2 ++ ws.flatten))) :
    LReps K H F (L.set i (some d)) (σ.set i (some v)) (ws.set i W1) ∧ Wf H F (W2 ++ (ws.set i W1).flatten) ∧ (∀ a ∈ (ws.set i W1).flatten, a ∈ W1 ∨ a ∈ ws.flatten) := by
  have l2 := l.store (i := i) r
  by_cases hi : i < ws.length
  · have p := flat_set (W := W1) hi
    have sb : (ws.set i []).flatten.Sublist ws.flatten := flat_none i
    refine ⟨l2, ?_, fun a m => ?_⟩
    · have w2 : Wf H F (W1 ++ (W2 ++ (ws.set i []).flatten)) := w.sub (List.Sublist.append (List.Sublist.refl _) (List.Sublist.append (List.Sublist.refl _) sb))
      refine w2.perm ?_
      rw [← List.append_assoc]
      refine (List.Perm.append_right _ List.perm_append_comm).trans ?_
      rw [List.append_assoc]
      exact List.Perm.append_left _ p.symm
    · rcases List.mem_append.mp (p.mem_iff.mp m) with m | m
      · exact .inl m
      · exact .inr (sb.subset m)
  · have e : ws.set i W1 = ws := List.set_eq_of_length_le (by omega)
    rw [e] at l2 ⊢
    exact ⟨l2, w.right, fun a m => .inr m⟩
theorem store_all : ∀ {is : List Nat} {ds : List D} {vs : List V} {W1 : List Addr} {L : Lcs} {σ : L2.St} {ws : List (List Addr)} {W2 : List Addr}, is.length = ds.length → LReps K H F L σ ws → Reps K H F ds vs W1 → Wf H F (W1 ++ (W2 ++ ws.flatten)) →
    ∃ ws', LReps K H F (setAllL L is ds) (setAll σ is vs) ws' ∧ Wf H F (W2 ++ ws'.flatten) ∧ ∀ a ∈ ws'.flatten, a ∈ W1 ∨ a ∈ ws.flatten
  | [], [], vs, W1, L, σ, ws, W2, _, l, r, w => by cases r; exact ⟨ws, l, by simpa using w, fun a m => .inr m⟩
  | i :: is, d :: ds, [], _, _, _, _, _, _, _, r, _ => by cases r
  | i :: is, d :: ds, v :: vs, _, L, σ, ws, W2, hl, l, r, w => by
    obtain ⟨Wa, Wb, rfl, ra, rb⟩ := Reps.cons_iff.mp r
    have w1 : Wf H F (Wa ++ ((Wb ++ W2) ++ ws.flatten)) := by simpa [List.append_assoc] using w
    obtain ⟨l1, w2, m1⟩ := store_one (i := i) l ra w1
    obtain ⟨ws', l2, w3, m2⟩ := store_all (is := is) (W2 := W2) (by simpa using hl) l1 rb (by simpa [List.append_assoc] using w2)
    refine ⟨ws', l2, w3, fun a m => ?_⟩
    rcases m2 a m with z | z
    · exact .inl (List.mem_append_right _ z)
    · rcases m1 a z with z | z
      · exact .inl (List.mem_append_left _ z)
      · exact .inr z
  | [], _ :: _, _, _, _, _, _, _, hl, _, _, _ => by simp at hl
  | _ :: _, [], _, _, _, _, _, _, hl, _, _, _ => by simp at hl

theorem assignEach_nms {env : PySem.Env} : ∀ {is : List Nat} {es : List Expr}, nmsOk Γ is es = true → (assignEach es env).length = es.length ∧ (assignEach es env).findIdx? (·.1) = none ∧ is.length = es.length
  | [], [], _ => ⟨rfl, rfl, rfl⟩
  | i :: is, e :: es, h => by
    simp only [nmsOk, Bool.and_eq_true] at h
    obtain ⟨x, pos, rfl, _⟩ := nmOk_out h.1
    obtain ⟨a, b, c⟩ := assignEach_nms (env := env) h.2
    refine ⟨?_, ?_, by simp [c]⟩
    · show ((false, assign (.Name x pos) env) :: assignEach es env).length = _
      simp [a]
    · show ((false, assign (.Name x pos) env) :: assignEach es env).findIdx? (·.1) = none
      simp [List.findIdx?_cons, b]
  | [], _ :: _, h => by simp [nmsOk] at h
  | _ :: _, [], h => by simp [nmsOk] at h
/-- the names, one after another -/
theorem nms_pgs (G : Good X Z Γ EX) : ∀ {is : List Nat} {es : List Expr}, nmsOk Γ is es = true → ∃ t, PGs X es t ∧ ∀ (vs : List V) (σ : L2.St) (H : Hp) (Q : L2.St → Hp → Prop), vs.length = is.length → Q (setAll σ is vs) H → t vs σ H Q
  | [], [], _ => ⟨gNil, pgs_nil, fun vs σ H Q hl q => by
      cases vs with
      | nil => exact ⟨rfl, q⟩
      | cons _ _ => simp at hl⟩
  | i :: is, e :: es, h => by
    simp only [nmsOk, Bool.and_eq_true] at h
    obtain ⟨t, p, q⟩ := nms_pgs G h.2
    obtain ⟨x, pos, rfl, _⟩ := nmOk_out h.1
    refine ⟨gCons (gName i) t, pgs_cons (nm_pg G h.1) p (by rfl), fun vs σ H Q hl hq => ?_⟩
    cases vs with
    | nil => simp at hl
    | cons v vs => exact ⟨v, vs, rfl, q vs _ _ _ (by simpa using hl) hq⟩
  | [], _ :: _, h => by simp [nmsOk] at h
  | _ :: _, [], h => by simp [nmsOk] at h

def isTup : Expr → Bool
  | .Tuple .. => true
  | _ => false
/-- a value that is stored, or a pair that is only taken apart -/
def RepB (K : PySem.W.Frag) (H : Hp) (F : Addr → Prop) (tg : Expr) (d : D) (v : V) (W : List Addr) : Prop :=
  Reps K H F [d] [v] W ∨ (isTup tg = true ∧ ∃ ds a us, d = .tup ds ∧ v = .ref a ∧ SqT K H a us ∧ Reps K H F ds us W)
/-- a target is bound -/
theorem tg_ok (G : Good X Z Γ EX) {tg : Tg} {e : Expr} (h : chkTg Γ tg e = true) {L L1 : Lcs} {ws : List (List Addr)} {d : D} {v : V} {W1 W2 : List Addr} (l : LReps X.K H F L σ ws) (r : RepB X.K H F e d v W1) (w : Wf H F (W1 ++ (W2 ++ ws.flatten)))
    (hs : tg.set d L = some L1) {Q : L2.St → Hp → Prop} (q : ∀ us ws', LReps X.K H F L1 (setAll σ tg.slots us) ws' → Wf H F (W2 ++ ws'.flatten) → (∀ a ∈ ws'.flatten, a ∈ W1 ∨ a ∈ ws.flatten) → Q (setAll σ tg.slots us) H) : tgW X e v σ H Q := by
  cases tg with
  | nm i =>
    simp only [Tg.set, Option.some.injEq] at hs
    subst hs
    have r : Reps X.K H F [d] [v] W1 := by
      rcases r with r | ⟨z, _⟩
      · exact r
      · exfalso
        obtain ⟨x, pos, rfl, _⟩ := nmOk_out (show nmOk Γ i e = true from h)
        cases z
    obtain ⟨l1, w1, m1⟩ := store_one (i := i) l r w
    exact toG (nm_pg G h) (q [v] _ l1 w1 m1)
  | tup is =>
    simp only [chkTg] at h
    split at h <;> try (exact absurd h Bool.false_ne_true)
    rename_i es k pos
    obtain ⟨a1, a2, a3⟩ := assignEach_nms (env := X.env) h
    obtain ⟨t, p, k2⟩ := nms_pgs G h
    cases d <;> simp only [Tg.set, reduceCtorEq] at hs
    rename_i ds
    split at hs <;> try (simp only [reduceCtorEq] at hs)
    rename_i hl
    simp only [Option.some.injEq] at hs
    rw [foldl_setAll] at hs
    subst hs
    have r : ∃ a us, v = .ref a ∧ SqT X.K H a us ∧ Reps X.K H F ds us W1 := by
      rcases r with r | ⟨_, ds', a, us, z, h1, h2, h3⟩
      · exact r.tupI
      · cases z; exact ⟨a, us, h1, h2, h3⟩
    obtain ⟨a, us, rfl, s, r1⟩ := r
    obtain ⟨ws', l1, w1, m1⟩ := store_all hl l r1 w
    have hu := r1.length
    exact toG (pg_tup (n := es.length) G.calm p a1 a2) ⟨a, us, rfl, s, by omega, k2 us σ H Q (by omega) (q us ws' l1 w1 m1)⟩

/-! ### wiped slots -/
theorem wipe_set {σ : L2.St} {i : Nat} {x : Option V} : ∀ {vs : List Nat}, i ∈ vs → wipe (σ.set i x) vs = wipe σ vs
  | [], h => by cases h
  | v :: vs, h => by
    unfold wipe
    by_cases hv : i ∈ vs
    · rw [wipe_set hv]
    · have e : i = v := by rcases List.mem_cons.mp h with h | h; exact h; exact absurd h hv
      subst e
      have : wipe (σ.set i x) vs = (wipe σ vs).set i x := by
        clear h
        induction vs with
        | nil => rfl
        | cons u us ih =>
          unfold wipe
          rw [ih (fun m => hv (List.mem_cons_of_mem _ m)), List.set_comm]
          intro e; exact hv (by rw [e]; exact List.mem_cons_self)
      rw [this, List.set_set]
theorem wipe_all {vs : List Nat} : ∀ {is : List Nat} {us : List V} {σ : L2.St}, (∀ i ∈ is, i ∈ vs) → wipe (setAll σ is us) vs = wipe σ vs
  | [], _, _, _ => by simp [setAll]
  | _ :: _, [], _, _ => by simp [setAll]
  | i :: is, u :: us, σ, h => by
    simp only [setAll]
    rw [wipe_all (fun j m => h j (List.mem_cons_of_mem _ m)), wipe_set (h i List.mem_cons_self)]
theorem wipe_wipe {σ : L2.St} : ∀ {us vs : List Nat}, (∀ i ∈ us, i ∈ vs) → wipe (wipe σ us) vs = wipe σ vs
  | [], vs, _ => rfl
  | u :: us, vs, h => by
    show wipe ((wipe σ us).set u none) vs = _
    rw [wipe_set (h u List.mem_cons_self), wipe_wipe fun i m => h i (List.mem_cons_of_mem _ m)]
def wipeWs (ws : List (List Addr)) : List Nat → List (List Addr)
  | [] => ws
  | v :: vs => (wipeWs ws vs).set v []
theorem wipeWs_sub {ws : List (List Addr)} : ∀ {vs : List Nat}, (wipeWs ws vs).flatten.Sublist ws.flatten
  | [] => List.Sublist.refl _
  | v :: vs => (flat_none v).trans wipeWs_sub
theorem LReps.wipe {L : Lcs} {ws : List (List Addr)} (l : LReps K H F L σ ws) : ∀ (vs : List Nat), LReps K H F (wipeL L vs) (L2.wipe σ vs) (wipeWs ws vs)
  | [] => l
  | v :: vs => (l.wipe vs).drop v none
/-- one slot stands as before -/
theorem LReps.unset {L : Lcs} {ws : List (List Addr)} {i : Nat} {σ : L2.St} (l : LReps K H F L (σ.set i none) ws) (hn : ∀ (o : Option D), L[i]? = some o → o = none) : LReps K H F L σ ws := by
  induction L generalizing σ ws i with
  | nil =>
    cases σ with
    | nil => cases i <;> exact l
    | cons y σ => cases i <;> (simp only [List.set_cons_zero, List.set_cons_succ] at l; cases l)
  | cons x L ih =>
    cases σ with
    | nil => cases i <;> (simp only [List.set_nil] at l; exact l)
    | cons y σ =>
      cases i with
      | zero =>
        simp only [List.set_cons_zero] at l
        have e := hn x (by simp)
        subst e
        cases l with
        | skip l => exact .skip l
      | succ i =>
        simp only [List.set_cons_succ] at l
        cases l with
        | skip l => exact .skip (ih l fun o e => hn o (by simpa using e))
        | cons r l => exact .cons r (ih l fun o e => hn o (by simpa using e))
theorem wipeL_get {L : Lcs} {v : Nat} : ∀ {vs : List Nat} (o : Option D), v ∈ vs → (wipeL L vs)[v]? = some o → o = none
  | [], _, h, _ => by cases h
  | u :: us, o, h, e => by
    unfold wipeL at e
    by_cases hu : u = v
    · subst hu
      by_cases hl : u < (wipeL L us).length
      · rw [List.getElem?_set_self hl] at e; simp at e; exact e.symm
      · rw [List.getElem?_eq_none (by simpa using hl)] at e; cases e
    · rw [List.getElem?_set_ne hu] at e
      rcases List.mem_cons.mp h with h | h
      · exact absurd h.symm hu
      · exact wipeL_get o h e
/-- behind a comprehension the names stand as before -/
theorem LReps.reset {L0 : Lcs} (l0 : ∀ i d, was L0 i = some d → ∃ v, σ[i]? = some (some v) ∧ Reps K H F [d] [v] []) : ∀ {vs : List Nat} {L : Lcs} {ws : List (List Addr)}, vs.Nodup → (∀ i ∈ vs, ∀ o, L[i]? = some o → o = none) → LReps K H F L (L2.wipe σ vs) ws →
    ∃ ws', LReps K H F (resetTo L0 L vs) σ ws' ∧ ws'.flatten = ws.flatten
  | [], L, ws, _, _, l => ⟨ws, l, rfl⟩
  | v :: vs, L, ws, nd, hn, l => by
    have hv := List.nodup_cons.mp nd
    have l1 : LReps K H F L (L2.wipe σ vs) ws := LReps.unset (i := v) l (hn v List.mem_cons_self)
    have hw : ∀ x, L2.wipe σ vs = x → (L2.wipe σ vs)[v]? = σ[v]? := fun _ _ => wipe_out hv.1
    have key : ∃ ws1, LReps K H F (L.set v (was L0 v)) (L2.wipe σ vs) ws1 ∧ ws1.flatten = ws.flatten := by
      have emp : ws.set v [] = ws := by
        have hl := l.length
        have : ∀ {L : Lcs} {σ : L2.St} {ws : List (List Addr)} {v : Nat}, LReps K H F L σ ws → (∀ o, L[v]? = some o → o = none) → ws.set v [] = ws := by
          intro L σ ws v l h
          induction l generalizing v with
          | nil => simp
          | skip _ ih =>
            cases v with
            | zero => rfl
            | succ v => simp only [List.set_cons_succ]; rw [ih fun o e => h o (by simpa using e)]
          | cons r _ ih =>
            cases v with
            | zero => exact nomatch (h (some _) rfl)
            | succ v => simp only [List.set_cons_succ]; rw [ih fun o e => h o (by simpa using e)]
        exact this l (hn v List.mem_cons_self)
      cases e : was L0 v with
      | none =>
        refine ⟨ws, ?_, rfl⟩
        have := l1.forget v
        rwa [emp] at this
      | some d =>
        obtain ⟨val, e1, r⟩ := l0 v d e
        refine ⟨ws.set v [], l1.put (by rw [wipe_out hv.1]; exact e1) r, by rw [emp]⟩
    obtain ⟨ws1, l2, f2⟩ := key
    obtain ⟨ws2, l3, f3⟩ := LReps.reset l0 (vs := vs) hv.2 (fun i m o e => hn i (List.mem_cons_of_mem _ m) o (by
      have hne : v ≠ i := fun z => hv.1 (by rw [z]; exact m)
      rw [List.getElem?_set_ne hne] at e; exact e)) l2
    exact ⟨ws2, l3, by rw [f3, f2]⟩
end
end Q

namespace Q
open PySem L2 PySem.Spec

/-! ## what is walked over -/
def Kp (H0 : Hp) (F0 : Addr → Prop) (H1 : Hp) : Prop := ∀ a o, H0 a = some o → (F0 a ∨ (∃ xs, o = .tup xs) ∨ ∃ ob u, o = .frz ob u) → H1 a = some o
def LenOk (H : Hp) : Prop := ∀ a xs, (Rd H a (.lst xs) ∨ Rd H a (.tup xs)) → xs.length ≤ sizeLine
def WalkD (K : PySem.W.Frag) (H0 : Hp) (F0 : Addr → Prop) (tg : Expr) (J : It) (ds : List D) : Prop :=
  ds.length ≤ sizeLine ∧ L2.Walk J ds.length (Kp H0 F0) (fun i H x H2 => KA H H2 ∧ ∃ d, ds[i]? = some d ∧ ∀ F', (∀ a, F0 a → F' a) → RepB K H2 F' tg d x [])
section
variable {X : Cx} {Z : EnvQ} {Γ : Gam} {EX : XK} {K : PySem.W.Frag} {σ : L2.St} {H H0 H1 : Hp} {F F0 F1 : Addr → Prop} {W : List Addr}
theorem lenOk {pins : List (Addr × Obj)} {s : Shared} (I : Inv X pins σ H s) : LenOk H := fun a xs h => by
  rcases h with h | h
  · exact (h.ok I.hok).1
  · exact (h.ok I.hok).1
theorem tW.len {e : Expr} {Q : VK} (h : tW X e σ H Q) : tW X e σ H (fun v H' => Q v H' ∧ LenOk H') := fun pins s I =>
  thn (h pins s I) fun _ _ ⟨v, H', I', r, q⟩ => ⟨v, H', I', r, q, lenOk I'⟩
theorem taW.len {es : List Expr} {Q : List V → Hp → Prop} (h : taW X es σ H Q) : taW X es σ H (fun v H' => Q v H' ∧ LenOk H') := fun pos pins s I =>
  thn (h pos pins s I) fun _ _ ⟨v, H', I', r, q⟩ => ⟨v, H', I', r, q, lenOk I'⟩
theorem sqL_len {a : Addr} {us : List V} (h : SqL K H a us) (l : LenOk H) : us.length ≤ sizeLine := by
  rcases h with h | ⟨o, its, n, _, _, _, _, hz, r⟩
  · exact l a us (.inl h)
  · have := r.length; simp only [Array.length_toList] at this; omega
theorem sqT_len {a : Addr} {us : List V} (h : SqT K H a us) (l : LenOk H) : us.length ≤ sizeLine := by
  rcases h with h | ⟨o, its, n, _, _, _, hz, r⟩
  · exact l a us (.inr h)
  · have := r.length; simp only [Array.length_toList] at this; omega
theorem sqT_kp {a : Addr} {us : List V} (h : SqT K H0 a us) (k : Kp H0 F0 H1) : SqT K H1 a us := by
  rcases h with (h | ⟨o, h⟩) | h
  · exact .inl (.inl (k _ _ h (.inr (.inl ⟨_, rfl⟩))))
  · exact .inl (.inr ⟨o, k _ _ h (.inr (.inr ⟨_, _, rfl⟩))⟩)
  · exact .inr h
theorem sqD_kp {a : Addr} {us : List V} (h : SqD K H0 a us) (k : Kp H0 F0 H1) : SqD K H1 a us := by
  refine ⟨sqT_kp h.1 k, ?_⟩
  rcases h.2 with ⟨o, u, h1, h2⟩ | h2
  · exact .inl ⟨o, u, k _ _ h1 (.inr (.inr ⟨_, _, rfl⟩)), h2⟩
  · exact .inr h2
theorem frzOk_kp {a : Addr} {us : List V} (h : FrzOk K H0 F0 a us) (k : Kp H0 F0 H1) (m : ∀ a, F0 a → F1 a) : FrzOk K H1 F1 a us := by
  rcases h with ⟨h | ⟨o, h⟩, f⟩ | h
  · exact .inl ⟨.inl (k _ _ h (.inl f)), m _ f⟩
  · exact .inl ⟨.inr ⟨o, k _ _ h (.inl f)⟩, m _ f⟩
  · exact .inr h
theorem Reps.kp {ds : List D} {us : List V} (r : Reps K H0 F0 ds us W) (hW : W = []) (k : Kp H0 F0 H1) (m : ∀ a, F0 a → F1 a) : Reps K H1 F1 ds us [] := by
  induction r with
  | nil => exact .nil
  | non _ ih => exact .non (ih hW)
  | bl _ ih => exact .bl (ih hW)
  | int _ ih => exact .int (ih hW)
  | str _ ih => exact .str (ih hW)
  | tup s _ _ i1 i2 =>
    obtain ⟨h1, h2⟩ := List.append_eq_nil_iff.mp hW
    exact .tup (W1 := []) (sqD_kp s k) (i1 h1) (i2 h2)
  | sh f s _ _ i1 i2 => exact .sh (m _ f) (k _ _ s (.inl f)) (i1 rfl) (i2 hW)
  | own => cases hW
  | dsh f s e _ _ i1 i2 => exact .dsh (m _ f) (k _ _ s (.inl f)) e (i1 rfl) (i2 hW)
  | down => cases hW
  | frz f _ _ i1 i2 => exact .frz (frzOk_kp f k m) (i1 rfl) (i2 hW)
theorem Kp.of {H' : Hp} {F' : Addr → Prop} {W' : List Addr} (x : Ext H F W H' F' W') (m : ∀ a ∈ W, IsMut H a) (d : ∀ a ∈ W, ¬ F a) : Kp H F H' := fun a o h q => x.keep a o h fun z => by
  rcases q with f | ⟨xs, rfl⟩ | ⟨ob, u, rfl⟩
  · exact d a z f
  · rcases m a z with ⟨_, e⟩ | ⟨_, e⟩ <;> rw [h] at e <;> cases e
  · rcases m a z with ⟨_, e⟩ | ⟨_, e⟩ <;> rw [h] at e <;> cases e
/-- a frozen list or tuple, opened for good -/
theorem Reps.elsF {d : D} {v : V} {ds : List D} (r : Reps K H F [d] [v] []) (h : d.els = some ds) (l : LenOk H) : ∃ a us, v = .ref a ∧ us.length ≤ sizeLine ∧ Reps K H F ds us [] ∧
    (((∃ ts, d = .tup ts) ∧ ∀ H1, Kp H F H1 → SqT K H1 a us) ∨ ((∀ ts, d ≠ .tup ts) ∧ ∀ H1, Kp H F H1 → SqL K H1 a us)) := by
  cases d <;> simp only [D.els, Option.some.injEq, reduceCtorEq] at h
  · subst h
    obtain ⟨a, us, e, s, r1⟩ := r.tupI
    exact ⟨a, us, e, sqT_len s l, r1, .inl ⟨⟨_, rfl⟩, fun H1 k => sqT_kp s k⟩⟩
  · subst h
    obtain ⟨a, us, W1, e, s, r1, sb, ho, hf⟩ := r.lstI
    rename_i b ds
    cases b with
    | true => have := ho rfl; cases this
    | false =>
      obtain ⟨rfl, f⟩ := hf rfl
      exact ⟨a, us, e, l a us (.inl (.inl s)), r1, .inr ⟨(fun _ z => nomatch z), fun H1 k => SqL.of (k _ _ s (.inl f))⟩⟩
  · subst h
    obtain ⟨a, us, e, s, r1⟩ := r.frzI
    exact ⟨a, us, e, sqL_len s.sq l, r1, .inr ⟨(fun _ z => nomatch z), fun H1 k => (frzOk_kp (F1 := F) s k fun _ h => h).sq⟩⟩

/-! ### readings of sources -/
def tiW (X : Cx) (tg iter : Expr) : TI := fun σ H R => ∀ pins s, Inv X pins σ H s →
  wpAny (model X.prog X.w) X.A (eval iter X.env) (fun v s1 => wpAny (model X.prog X.w) X.A (pyIter v) (PIE X pins σ tg R) X.xe s1) X.xe s
theorem piW {tg iter : Expr} : PI X tg iter (tiW X tg iter) := ⟨fun pins s σ H R I h => h pins s I⟩
theorem toI {tg iter : Expr} {t : TI} (h : PI X tg iter t) {R : It → Hp → Prop} (q : t σ H R) : tiW X tg iter σ H R := fun pins s I => h.run pins s σ H R I q
/-- a list or a tuple -/
def iSeq (K : PySem.W.Frag) (tl : TE) : TI := fun σ H R => tl σ H fun x H1 => ∃ a us, x = .ref a ∧ ((SqL K H1 a us ∧ R (Itl K a) H1) ∨ (SqT K H1 a us ∧ R (Itt K a) H1))
theorem pi_seq {tg l : Expr} {tl : TE} (hl : PE X l tl) : PI X tg l (iSeq X.K tl) := by
  refine ⟨fun pins s σ H R I h => ?_⟩
  refine thn (hl.run pins s σ H _ I h) fun v s1 ⟨x, H1, I1, r1, q1⟩ => ?_
  obtain ⟨a, us, e, q⟩ := q1
  subst e
  cases r1
  rcases q with ⟨hq, q⟩ | ⟨hq, q⟩
  · have := (pi_list (X := X) (tg := tg) (l := l) (tl := tl) hl)
    obtain ⟨its, rv, p, hz⟩ := I1.list hq
    refine PySem.wpAny_pyIter_list p.isList ?_
    refine ⟨s1.heap.objs.size, [s1.heap.objs.size], _, _, H1, rfl, I1.kept (t' := s1.toks) fun b o e => Heap.get?_push_of_some _ e, turn_list a _, ⟨_, Heap.get?_push_size _ rfl, rfl, rfl⟩, fun b hb => ?_, q⟩
    have e : b = s1.heap.objs.size := by simpa using hb
    subst e
    exact I1.fpOk (Nat.le_refl _) (I1.hok.fresh (Nat.le_refl _))
  · obtain ⟨its, rv, p, hz⟩ := I1.tuple hq
    refine PySem.wpAny_pyIter_tuple (show s1.heap.IsTuple a its.toArray from p) ?_
    refine ⟨s1.heap.objs.size, [s1.heap.objs.size], _, _, H1, rfl, I1.kept (t' := s1.toks) fun b o e => Heap.get?_push_of_some _ e, turn_tuple a _, ⟨_, Heap.get?_push_size _ rfl, rfl, rfl⟩, fun b hb => ?_, q⟩
    have e : b = s1.heap.objs.size := by simpa using hb
    subst e
    exact I1.fpOk (Nat.le_refl _) (I1.hok.fresh (Nat.le_refl _))

def PostI (K : PySem.W.Frag) (tg : Expr) (H : Hp) (F : Addr → Prop) (W : List Addr) (σ : L2.St) (ds : List D) (L' : Lcs) (J : It) (H' : Hp) : Prop :=
  ∃ (F' : Addr → Prop) (ws' : List (List Addr)), WalkD K H' F' tg J ds ∧ LReps K H' F' L' σ ws' ∧ Wf H' F' ws'.flatten ∧ Ext H F W H' F' ws'.flatten
def GoalI (X : Cx) (EX : XK) (tg iter : Expr) (σ : L2.St) (H : Hp) (F : Addr → Prop) (W : List Addr) (r : Res (List D × Lcs)) : Prop :=
  ∀ R : It → Hp → Prop, After X.K X.mg EX H F W r (fun ds L' => ∀ J H', PostI X.K tg H F W σ ds L' J H' → R J H') → tiW X tg iter σ H R

/-- temporaries frozen -/
theorem freezeT {ds : List D} {vs : List V} {L : Lcs} {W1 : List Addr} {ws : List (List Addr)} (r : Reps K H F ds vs W1) (l : LReps K H F L σ ws) (w : Wf H F (W1 ++ ws.flatten)) :
    Reps K H (fun a => F a ∨ a ∈ W1) (D.fzs ds) vs [] ∧ LReps K H (fun a => F a ∨ a ∈ W1) L σ ws ∧ Wf H (fun a => F a ∨ a ∈ W1) ws.flatten ∧ Ext H F (W1 ++ ws.flatten) H (fun a => F a ∨ a ∈ W1) ws.flatten := by
  refine ⟨r.fz (fun a f => .inl f) fun a m => .inr m, l.up fun a f => .inl f, ⟨w.right.nd, fun a m z => ?_, fun a f => ?_⟩, ⟨fun a o h _ => h, fun a m => .inl (List.mem_append_right _ m), fun a f => .inl f, fun a f => ?_, fun a h => h⟩⟩
  · rcases z with z | z
    · exact w.dj a (List.mem_append_right _ m) z
    · exact (List.nodup_append.mp w.nd).2.2 a z a m rfl
  · rcases f with f | f
    · exact w.tr a f
    · exact (r.muts a f).some
  · rcases f with f | f
    · exact .inl f
    · exact .inr (.inl (List.mem_append_left _ f))
theorem els_fz {d : D} : (d.fz).els = d.els.map (fun ds => match d with | .frz _ => ds | _ => D.fzs ds) := by
  cases d <;> rfl

theorem walk_lst {tg : Expr} {a : Addr} {us : List V} {ds : List D} (r : Reps K H F ds us []) (hz : us.length ≤ sizeLine) (s : ∀ H1, Kp H F H1 → SqL K H1 a us) : WalkD K H F tg (Itl K a) ds := by
  refine ⟨by rw [r.length]; exact hz, ?_⟩
  have e := r.length
  rw [e]
  refine walk_list.mono (fun H1 k => s H1 k) fun i H1 x H2 hi k y => ?_
  obtain ⟨rfl, hx⟩ := y
  obtain ⟨d, hd⟩ : ∃ d, ds[i]? = some d := ⟨ds[i]'(by omega), by simp [show i < ds.length by omega]⟩
  obtain ⟨v, W1, e1, r1, sb⟩ := r.get hd
  rw [hx] at e1
  cases e1
  exact ⟨KA.refl _, d, hd, fun F' m => .inl (r1.kp (List.sublist_nil.mp sb) k m)⟩
theorem walk_tp {tg : Expr} {a : Addr} {us : List V} {ds : List D} (r : Reps K H F ds us []) (hz : us.length ≤ sizeLine) (s : ∀ H1, Kp H F H1 → SqT K H1 a us) : WalkD K H F tg (Itt K a) ds := by
  refine ⟨by rw [r.length]; exact hz, ?_⟩
  have e := r.length
  rw [e]
  refine walk_tup.mono (fun H1 k => s H1 k) fun i H1 x H2 hi k y => ?_
  obtain ⟨rfl, hx⟩ := y
  obtain ⟨d, hd⟩ : ∃ d, ds[i]? = some d := ⟨ds[i]'(by omega), by simp [show i < ds.length by omega]⟩
  obtain ⟨v, W1, e1, r1, sb⟩ := r.get hd
  rw [hx] at e1
  cases e1
  exact ⟨KA.refl _, d, hd, fun F' m => .inl (r1.kp (List.sublist_nil.mp sb) k m)⟩
theorem rngD_get : ∀ {n : Nat} {lo : Int} {i : Nat}, i < n → (rngD lo n)[i]? = some (.int (lo + i))
  | n + 1, lo, 0, _ => by simp [rngD]
  | n + 1, lo, i + 1, h => by
    simp only [rngD, List.getElem?_cons_succ]
    rw [rngD_get (by omega)]
    congr 2
    omega
theorem rngD_len : ∀ {n : Nat} {lo : Int}, (rngD lo n).length = n
  | 0, _ => rfl
  | n + 1, lo => by simp [rngD, rngD_len]
theorem walk_rng {tg : Expr} {lo : Int} {n : Nat} (hn : n ≤ 3000000) : WalkD K H F tg (Itr lo n) (rngD lo n) := by
  refine ⟨by rw [rngD_len, sizeLine_eq]; omega, ?_⟩
  rw [rngD_len]
  refine walk_range.mono (fun _ _ => True.intro) fun i H1 x H2 hi k y => ?_
  obtain ⟨rfl, rfl⟩ := y
  exact ⟨KA.refl _, _, rngD_get hi, fun F' m => .inl (.int .nil)⟩
theorem zip2_len : ∀ (xs ys : List D), (zip2D xs ys).length = min xs.length ys.length
  | [], ys => by simp [zip2D]
  | _ :: _, [] => by simp [zip2D]
  | x :: xs, y :: ys => by simp only [zip2D, List.length_cons, zip2_len xs ys]; omega
theorem zip2_get : ∀ {xs ys : List D} {i : Nat} {x y : D}, xs[i]? = some x → ys[i]? = some y → (zip2D xs ys)[i]? = some (.tup [x, y])
  | [], _, _, _, _, h, _ => by simp at h
  | _ :: _, [], _, _, _, _, h => by simp at h
  | x :: xs, y :: ys, 0, _, _, h, h2 => by simp at h h2; subst h h2; simp [zip2D]
  | x :: xs, y :: ys, i + 1, _, _, h, h2 => by simp only [zip2D, List.getElem?_cons_succ]; exact zip2_get (by simpa using h) (by simpa using h2)
theorem enum_len : ∀ (k : Int) (xs : List D), (enumD k xs).length = xs.length
  | _, [] => rfl
  | k, x :: xs => by simp [enumD, enum_len]
theorem enum_get : ∀ {k : Int} {xs : List D} {i : Nat} {x : D}, xs[i]? = some x → (enumD k xs)[i]? = some (.tup [.int (k + i), x])
  | _, [], _, _, h => by simp at h
  | k, x :: xs, 0, _, h => by simp at h; subst h; simp [enumD]
  | k, x :: xs, i + 1, _, h => by
    simp only [enumD, List.getElem?_cons_succ]
    rw [enum_get (by simpa using h)]
    have e : k + 1 + (i : Int) = k + ((i + 1 : Nat) : Int) := by omega
    rw [e]
theorem pair_rep {tg : Expr} (ht : isTup tg = true) {H2 : Hp} {F' : Addr → Prop} {d e : D} {x y : V} {T : Addr} (r1 : Reps K H1 F' [d] [x] []) (r2 : Reps K H1 F' [e] [y] []) (hT : H1 T = none) (e2 : H2 = upd H1 T (.tup [x, y])) : KA H1 H2 ∧ RepB K H2 F' tg (.tup [d, e]) (.ref T) [] := by
  subst e2
  have k : KA H1 (upd H1 T (.tup [x, y])) := KA.new hT
  refine ⟨k, ?_⟩
  exact .inr ⟨ht, _, _, _, rfl, rfl, SqT.of (K := K) (upd_same (H := H1) (a := T) (o := .tup [x, y])), Reps.cons_iff.mpr ⟨[], [], rfl, k.reps r1, k.reps r2⟩⟩
theorem walk_zipL {tg : Expr} (ht : isTup tg = true) {a b : Addr} {us vs : List V} {xs ys : List D} (r : Reps K H F xs us []) (r2 : Reps K H F ys vs []) (hz : us.length ≤ sizeLine) (s : ∀ H1, Kp H F H1 → SqL K H1 a us) (s2 : ∀ H1, Kp H F H1 → SqL K H1 b vs) : WalkD K H F tg (Itz K a b) (zip2D xs ys) := by
  have e1 := r.length
  have e2 := r2.length
  refine ⟨by rw [zip2_len]; omega, ?_⟩
  rw [zip2_len, e1, e2]
  refine (walk_zip rfl).mono (fun H1 k => ⟨s H1 k, s2 H1 k⟩) fun i H1 x H2 hi k y => ?_
  obtain ⟨T, p, q, rfl, hT, eH, hp, hq⟩ := y
  obtain ⟨d, hd⟩ : ∃ d, xs[i]? = some d := ⟨xs[i]'(by omega), by simp [show i < xs.length by omega]⟩
  obtain ⟨d2, hd2⟩ : ∃ d, ys[i]? = some d := ⟨ys[i]'(by omega), by simp [show i < ys.length by omega]⟩
  obtain ⟨v, W1, ev, rv, sb⟩ := r.get hd
  obtain ⟨v2, W2, ev2, rv2, sb2⟩ := r2.get hd2
  have hp' : us[i]? = some p := hp
  have hq' : vs[i]? = some q := hq
  rw [hp'] at ev; cases ev
  rw [hq'] at ev2; cases ev2
  have k2 : KA H1 H2 := by rw [eH]; exact KA.new hT
  exact ⟨k2, _, zip2_get hd hd2, fun F' m => (pair_rep ht (rv.kp (List.sublist_nil.mp sb) k m) (rv2.kp (List.sublist_nil.mp sb2) k m) hT eH).2⟩
theorem walk_zipTT {n : Nat} {xs ys : List V} {a b : Addr} (hn : n = min xs.length ys.length) : L2.Walk (RZ.ItzT K a b) n (fun H => SqT K H a xs ∧ SqT K H b ys) (YPair (fun i => xs[i]?) (fun i => ys[i]?)) := by
  subst hn
  refine ⟨fun i _ hi q => ?_, fun _ q => ⟨xs, ys, q.1, q.2, by omega⟩, fun i H v H' _ q y => ?_⟩
  · have h1 : i < xs.length := by omega
    have h2 : i < ys.length := by omega
    exact ⟨xs, ys, xs[i], ys[i], q.1, q.2, by simp [h1], by simp [h2]⟩
  · obtain ⟨T, x, z, h1, h2, h3, h4, h5⟩ := y
    exact ⟨T, x, z, h1, h2, h3, h4 xs q.1, h5 ys q.2⟩
theorem walk_zipT {tg : Expr} (ht : isTup tg = true) {a b : Addr} {us vs : List V} {xs ys : List D} (r : Reps K H F xs us []) (r2 : Reps K H F ys vs []) (hz : us.length ≤ sizeLine) (s : ∀ H1, Kp H F H1 → SqT K H1 a us) (s2 : ∀ H1, Kp H F H1 → SqT K H1 b vs) : WalkD K H F tg (RZ.ItzT K a b) (zip2D xs ys) := by
  have e1 := r.length
  have e2 := r2.length
  refine ⟨by rw [zip2_len]; omega, ?_⟩
  rw [zip2_len, e1, e2]
  refine (walk_zipTT rfl).mono (fun H1 k => ⟨s H1 k, s2 H1 k⟩) fun i H1 x H2 hi k y => ?_
  obtain ⟨T, p, q, rfl, hT, eH, hp, hq⟩ := y
  obtain ⟨d, hd⟩ : ∃ d, xs[i]? = some d := ⟨xs[i]'(by omega), by simp [show i < xs.length by omega]⟩
  obtain ⟨d2, hd2⟩ : ∃ d, ys[i]? = some d := ⟨ys[i]'(by omega), by simp [show i < ys.length by omega]⟩
  obtain ⟨v, W1, ev, rv, sb⟩ := r.get hd
  obtain ⟨v2, W2, ev2, rv2, sb2⟩ := r2.get hd2
  have hp' : us[i]? = some p := hp
  have hq' : vs[i]? = some q := hq
  rw [hp'] at ev; cases ev
  rw [hq'] at ev2; cases ev2
  have k2 : KA H1 H2 := by rw [eH]; exact KA.new hT
  exact ⟨k2, _, zip2_get hd hd2, fun F' m => (pair_rep ht (rv.kp (List.sublist_nil.mp sb) k m) (rv2.kp (List.sublist_nil.mp sb2) k m) hT eH).2⟩
theorem walk_enumT {tg : Expr} (ht : isTup tg = true) {a : Addr} {us : List V} {xs : List D} (r : Reps K H F xs us []) (hz : us.length ≤ sizeLine) (s : ∀ H1, Kp H F H1 → SqT K H1 a us) : WalkD K H F tg (IteT K a) (enumD 0 xs) := by
  have e1 := r.length
  refine ⟨by rw [enum_len]; omega, ?_⟩
  rw [enum_len, e1]
  refine walk_enumT0.mono (fun H1 k => s H1 k) fun i H1 x H2 hi k y => ?_
  obtain ⟨T, p, q, rfl, hT, eH, hp, hq⟩ := y
  obtain ⟨d, hd⟩ : ∃ d, xs[i]? = some d := ⟨xs[i]'(by omega), by simp [show i < xs.length by omega]⟩
  obtain ⟨v, W1, ev, rv, sb⟩ := r.get hd
  have hp' : some (V.int (i : Nat)) = some p := hp
  have hq' : us[i]? = some q := hq
  cases hp'
  rw [hq'] at ev; cases ev
  have k2 : KA H1 H2 := by rw [eH]; exact KA.new hT
  refine ⟨k2, _, enum_get hd, fun F' m => ?_⟩
  exact (pair_rep ht (F' := F') (d := .int (0 + (i : Int))) (x := .int (i : Nat)) (by rw [Int.zero_add]; exact .int .nil) (rv.kp (List.sublist_nil.mp sb) k m) hT eH).2
theorem walk_enumL {tg : Expr} (ht : isTup tg = true) {a : Addr} {us : List V} {xs : List D} (r : Reps K H F xs us []) (hz : us.length ≤ sizeLine) (s : ∀ H1, Kp H F H1 → SqL K H1 a us) : WalkD K H F tg (Ite K a) (enumD 0 xs) := by
  have e1 := r.length
  refine ⟨by rw [enum_len]; omega, ?_⟩
  rw [enum_len, e1]
  refine walk_enum.mono (fun H1 k => s H1 k) fun i H1 x H2 hi k y => ?_
  obtain ⟨T, p, q, rfl, hT, eH, hp, hq⟩ := y
  obtain ⟨d, hd⟩ : ∃ d, xs[i]? = some d := ⟨xs[i]'(by omega), by simp [show i < xs.length by omega]⟩
  obtain ⟨v, W1, ev, rv, sb⟩ := r.get hd
  have hp' : some (V.int (i : Nat)) = some p := hp
  have hq' : us[i]? = some q := hq
  cases hp'
  rw [hq'] at ev; cases ev
  have k2 : KA H1 H2 := by rw [eH]; exact KA.new hT
  refine ⟨k2, _, enum_get hd, fun F' m => ?_⟩
  have := (pair_rep ht (F' := F') (d := .int (0 + (i : Int))) (x := .int (i : Nat)) (by rw [Int.zero_add]; exact .int .nil) (rv.kp (List.sublist_nil.mp sb) k m) hT eH).2
  exact this
end
end Q

namespace Q
open PySem L2 PySem.Spec

/-! ## calls of the program's defs -/
inductive AReps (K : PySem.W.Frag) (H : Hp) (F : Addr → Prop) (σ : L2.St) : List Bool → List Arg → List V → List Addr → Prop
  | nil {ms} : AReps K H F σ ms [] [] []
  | val {ms d v W1 as vs W2} : ms.headD false = false → Reps K H F [d] [v] W1 → AReps K H F σ ms.tail as vs W2 → AReps K H F σ ms (.val d :: as) (v :: vs) (W1 ++ W2)
  | bor {ms i v as vs W} : ms.headD false = false → σ[i]? = some (some v) → AReps K H F σ ms.tail as vs W → AReps K H F σ ms (.bor i :: as) (v :: vs) W
  | io {ms i v as vs W} : ms.headD false = true → σ[i]? = some (some v) → AReps K H F σ ms.tail as vs W → AReps K H F σ ms (.io i :: as) (v :: vs) W

mutual
theorem noOwn_fz : ∀ d : D, d.fz.noOwn = true
  | .non | .bl _ | .int _ | .str _ => by simp [D.fz, D.noOwn]
  | .tup ds => by simp [D.fz, D.noOwn, noOwns_fzs ds]
  | .lst b ds => by simp [D.fz, D.noOwn, noOwns_fzs ds]
  | .dic b ks ds => by simp [D.fz, D.noOwn, noOwns_fzs ds]
  | .frz ds => by simp [D.fz, D.noOwn]
theorem noOwns_fzs : ∀ ds : List D, D.noOwns (D.fzs ds) = true
  | [] => by simp [D.fzs, D.noOwns]
  | d :: ds => by simp [D.fzs, D.noOwns, noOwn_fz d, noOwns_fzs ds]
end

section
variable {K : PySem.W.Frag} {σ : L2.St} {H H' : Hp} {F F' : Addr → Prop} {Wt : List Addr} {ms : List Bool} {as : List Arg} {vs : List V}

theorem AReps.muts (r : AReps K H F σ ms as vs Wt) : ∀ a ∈ Wt, IsMut H a := by
  induction r with
  | nil => intro a m; cases m
  | val _ r _ ih => intro a m; exact (List.mem_append.mp m).elim (r.muts a) (ih a)
  | bor _ _ _ ih => exact ih
  | io _ _ _ ih => exact ih
theorem AReps.frame {B : List Addr} (r : AReps K H F σ ms as vs Wt) (k : ∀ a o, H a = some o → a ∉ B → H' a = some o) (hm : ∀ a ∈ B, IsMut H a) (hd : ∀ a ∈ Wt, a ∉ B) (hF : ∀ a, F a → a ∉ B) (mono : ∀ a, F a → F' a) : AReps K H' F' σ ms as vs Wt := by
  induction r with
  | nil => exact .nil
  | val h r _ ih => exact .val h (r.frame k hm (fun a m => hd a (List.mem_append_left _ m)) hF mono) (ih fun a m => hd a (List.mem_append_right _ m))
  | bor h e _ ih => exact .bor h e (ih hd)
  | io h e _ ih => exact .io h e (ih hd)
/-- temporaries stay aside -/
theorem aasideA {W W1 : List Addr} (r : AReps K H F σ ms as vs Wt) (m : ∀ a ∈ W, IsMut H a) (w : Wf H F (Wt ++ W)) (x : Ext H F W H' F' W1) (w1 : Wf H' F' W1) :
    AReps K H' F' σ ms as vs Wt ∧ Wf H' F' (Wt ++ W1) ∧ Ext H F (Wt ++ W) H' F' (Wt ++ W1) := by
  have nd := List.nodup_append.mp w.nd
  have dis : ∀ a ∈ Wt, a ∉ W := fun a h z => nd.2.2 a h a z rfl
  have m0 := r.muts
  refine ⟨r.frame x.keep m dis (fun a h z => w.dj a (List.mem_append_right _ z) h) x.mono, ⟨?_, fun a h => ?_, w1.tr⟩, ⟨fun a o h n => x.keep a o h fun z => n (List.mem_append_right _ z), fun a h => ?_, x.mono, fun a h => ?_, x.live⟩⟩
  · refine List.nodup_append.mpr ⟨nd.1, w1.nd, fun a h b h' e => ?_⟩
    subst e
    rcases x.w a h' with z | z
    · exact dis a h z
    · exact (m0 a h).some z
  · rcases List.mem_append.mp h with h | h
    · intro z
      rcases x.f a z with z | z | z
      · exact w.dj a (List.mem_append_left _ h) z
      · exact dis a h z
      · exact (m0 a h).some z
    · exact w1.dj a h
  · rcases List.mem_append.mp h with h | h
    · exact .inl (List.mem_append_left _ h)
    · exact (x.w a h).elim (fun z => .inl (List.mem_append_right _ z)) .inr
  · rcases x.f a h with z | z | z
    · exact .inl z
    · exact .inr (.inl (List.mem_append_right _ z))
    · exact .inr (.inr z)

/-- the arguments' values at the call -/
theorem argVals_ok : ∀ {as : List Arg} {ms : List Bool} {vs : List V} {Wt : List Addr} {L L1 : Lcs} {ws : List (List Addr)} {ds : List D}, AReps K H F σ ms as vs Wt → LReps K H F L σ ws → argVals as L = some (ds, L1) →
    ∃ (ws1 : List (List Addr)) (Wio : List Addr), LReps K H F L1 σ ws1 ∧ ws.flatten.Perm (Wio ++ ws1.flatten) ∧ (∀ i d, L1[i]? = some (some d) → ws1.getD i [] = ws.getD i []) ∧
      (∀ Fc : Addr → Prop, (∀ a, F a → Fc a) → (∀ a ∈ Wt, Fc a) → (∀ i, Arg.bor i ∈ as → ∀ a ∈ ws.getD i [], Fc a) → Reps K H Fc ds vs Wio) ∧ ioNone ms ds = true
  | [], ms, vs, Wt, L, L1, ws, ds, r, l, h => by
    simp only [argVals, Option.some.injEq, Prod.mk.injEq] at h
    obtain ⟨rfl, rfl⟩ := h
    cases r
    refine ⟨ws, [], l, List.Perm.refl _, fun _ _ _ => rfl, fun _ _ _ _ => .nil, ?_⟩
    cases ms with
    | nil => rfl
    | cons m ms => cases m <;> rfl
  | .val d :: as, ms, _, _, L, L1, ws, ds, .val (vs := vs) (W1 := W1) (W2 := W2) hm rd ra, l, h => by
    simp only [argVals] at h
    split at h <;> simp only [Option.some.injEq, Prod.mk.injEq, reduceCtorEq] at h
    rename_i ds' L' e
    obtain ⟨rfl, rfl⟩ := h
    obtain ⟨ws1, Wio, l1, p, g, rr, io⟩ := argVals_ok ra l e
    refine ⟨ws1, Wio, l1, p, g, fun Fc h1 h2 h3 => ?_, ?_⟩
    · exact Reps.cons_iff.mpr ⟨[], Wio, rfl, fz_one rd h1 (fun a m => h2 a (List.mem_append_left _ m)), rr Fc h1 (fun a m => h2 a (List.mem_append_right _ m)) fun i m => h3 i (List.mem_cons_of_mem _ m)⟩
    · cases ms with
      | nil =>
        have : D.noOwns ds' = true := by cases ds' <;> exact io
        simp [ioNone, D.noOwns, noOwn_fz, this]
      | cons m ms =>
        simp only [List.headD_cons] at hm
        subst hm
        simp only [ioNone, noOwn_fz, Bool.true_and]
        exact io
  | .bor i :: as, ms, _, _, L, L1, ws, ds, .bor (vs := vs) hm es ra, l, h => by
    simp only [argVals] at h
    split at h <;> simp only [Option.some.injEq, Prod.mk.injEq, reduceCtorEq] at h
    rename_i d ds' L' ed e
    obtain ⟨rfl, rfl⟩ := h
    obtain ⟨ws1, Wio, l1, p, g, rr, io⟩ := argVals_ok ra l e
    obtain ⟨v, e1, rd, hi⟩ := l.get ed
    rw [es] at e1
    cases e1
    refine ⟨ws1, Wio, l1, p, g, fun Fc h1 h2 h3 => ?_, ?_⟩
    · exact Reps.cons_iff.mpr ⟨[], Wio, rfl, fz_one rd h1 (fun a m => h3 i List.mem_cons_self a m), rr Fc h1 h2 fun i m => h3 i (List.mem_cons_of_mem _ m)⟩
    · cases ms with
      | nil =>
        have : D.noOwns ds' = true := by cases ds' <;> exact io
        simp [ioNone, D.noOwns, noOwn_fz, this]
      | cons m ms =>
        simp only [List.headD_cons] at hm
        subst hm
        simp only [ioNone, noOwn_fz, Bool.true_and]
        exact io
  | .io i :: as, ms, _, _, L, L1, ws, ds, .io (vs := vs) hm es ra, l, h => by
    simp only [argVals] at h
    split at h <;> try (simp only [reduceCtorEq] at h)
    rename_i d ed
    split at h <;> simp only [Option.some.injEq, Prod.mk.injEq, reduceCtorEq] at h
    rename_i ds' L' e
    obtain ⟨rfl, rfl⟩ := h
    obtain ⟨v, e1, rd, hi⟩ := l.get ed
    rw [es] at e1
    cases e1
    obtain ⟨ws1, Wio, l1, p, g, rr, io⟩ := argVals_ok ra (l.forget i) e
    have sub : ∀ j, ∀ a ∈ (ws.set i []).getD j [], a ∈ ws.getD j [] := fun j a m => by
      by_cases hj : i = j
      · subst hj; simp [List.getD_eq_getElem?_getD, List.getElem?_set_self hi] at m
      · simpa [List.getD_eq_getElem?_getD, List.getElem?_set_ne hj] using m
    refine ⟨ws1, ws.getD i [] ++ Wio, l1, ?_, fun j d' ej => ?_, fun Fc h1 h2 h3 => ?_, ?_⟩
    · rw [List.append_assoc]
      exact (flat_take hi).trans (List.Perm.append_left _ p)
    · rw [g j d' ej]
      by_cases hj : i = j
      · subst hj
        exfalso
        have key : ∀ {as : List Arg} {L L1 : Lcs} {ds : List D} {j : Nat}, argVals as L = some (ds, L1) → (∀ d, L[j]? ≠ some (some d)) → ∀ d, L1[j]? ≠ some (some d) := by
          intro as
          induction as with
          | nil => intro L L1 ds j h hn; simp only [argVals, Option.some.injEq, Prod.mk.injEq] at h; rw [← h.2]; exact hn
          | cons x as ih =>
            intro L L1 ds j h hn
            cases x with
            | val d =>
              simp only [argVals] at h
              split at h <;> simp only [Option.some.injEq, Prod.mk.injEq, reduceCtorEq] at h
              rename_i e; rw [← h.2]; exact ih e hn
            | bor k =>
              simp only [argVals] at h
              split at h <;> simp only [Option.some.injEq, Prod.mk.injEq, reduceCtorEq] at h
              rename_i e; rw [← h.2]; exact ih e hn
            | io k =>
              simp only [argVals] at h
              split at h <;> try (simp only [reduceCtorEq] at h)
              split at h <;> simp only [Option.some.injEq, Prod.mk.injEq, reduceCtorEq] at h
              rename_i e
              rw [← h.2]
              refine ih e fun d => ?_
              by_cases hk : k = j
              · subst hk
                by_cases hl : k < L.length
                · rw [List.getElem?_set_self hl]; simp
                · rw [List.getElem?_eq_none (by simpa using hl)]; simp
              · rw [List.getElem?_set_ne hk]; exact hn d
        refine key e (fun d => ?_) d' ej
        rw [List.getElem?_set_self (List.getElem?_eq_some_iff.mp ed).1]; simp
      · simp [List.getD_eq_getElem?_getD, List.getElem?_set_ne hj]
    · exact Reps.cons_iff.mpr ⟨_, Wio, rfl, rd.up h1, rr Fc h1 h2 fun j m a ma => h3 j (List.mem_cons_of_mem _ m) a (sub j a ma)⟩
    · cases ms with
      | nil => simp at hm
      | cons m ms =>
        simp only [List.headD_cons] at hm
        subst hm
        exact io

/-- a slot is filled anew -/
theorem put_one {L : Lcs} {ws : List (List Addr)} {i : Nat} {d : D} {v : V} {W1 W2 : List Addr} (l : LReps K H F L σ ws) (es : σ[i]? = some (some v)) (r : Reps K H F [d] [v] W1) (w : Wf H F (W1 ++ (W2 ++ ws.flatten))) :
    LReps K H F (L.set i (some d)) σ (ws.set i W1) ∧ Wf H F (W2 ++ (ws.set i W1).flatten) ∧ (∀ a ∈ (ws.set i W1).flatten, a ∈ W1 ∨ a ∈ ws.flatten) := by
  have h := store_one (i := i) l r w
  refine ⟨l.put es r, h.2⟩
theorem putBack_ok : ∀ {as : List Arg} {ms : List Bool} {vs : List V} {Wt W0 W2 : List Addr} {L L2 : Lcs} {ws : List (List Addr)} {os : List (Option D)} {H0 : Hp} {F0 : Addr → Prop}, AReps K H0 F0 σ ms as vs Wt → LReps K H F L σ ws → OReps K H F os (ioPick ms vs) W2 →
    putBack as os L = some L2 → Wf H F (W0 ++ (W2 ++ ws.flatten)) → ∃ ws2, LReps K H F L2 σ ws2 ∧ Wf H F (W0 ++ ws2.flatten) ∧ (∀ a ∈ ws2.flatten, a ∈ W2 ∨ a ∈ ws.flatten) ∧ ∀ i, Arg.io i ∉ as → ws2.getD i [] = ws.getD i [] ∧ L2[i]? = L[i]?
  | [], ms, vs, Wt, W0, W2, L, L2, ws, os, _, _, r, l, o, h, w => by
    cases r
    cases os with
    | nil =>
      simp only [putBack, Option.some.injEq] at h
      subst h
      have : ioPick ms ([] : List V) = [] := by cases ms with
        | nil => rfl
        | cons m ms => cases m <;> rfl
      rw [this] at o
      cases o
      exact ⟨ws, l, by simpa using w, fun a m => .inr m, fun _ _ => ⟨rfl, rfl⟩⟩
    | cons x os => simp [putBack] at h
  | .val d :: as, ms, _, _, W0, W2, L, L2, ws, os, _, _, .val (vs := vs) (v := v) hm rd ra, l, o, h, w => by
    have e : ioPick ms (v :: vs) = ioPick ms.tail vs := by
      cases ms with
      | nil => cases vs <;> rfl
      | cons m ms => simp only [List.headD_cons] at hm; subst hm; rfl
    rw [e] at o
    obtain ⟨ws2, l2, w2, m2, g2⟩ := putBack_ok ra l o (by cases os <;> exact h) w
    exact ⟨ws2, l2, w2, m2, fun i m => g2 i fun z => m (List.mem_cons_of_mem _ z)⟩
  | .bor i :: as, ms, _, _, W0, W2, L, L2, ws, os, _, _, .bor (vs := vs) (v := v) hm es ra, l, o, h, w => by
    have e : ioPick ms (v :: vs) = ioPick ms.tail vs := by
      cases ms with
      | nil => cases vs <;> rfl
      | cons m ms => simp only [List.headD_cons] at hm; subst hm; rfl
    rw [e] at o
    obtain ⟨ws2, l2, w2, m2, g2⟩ := putBack_ok ra l o (by cases os <;> exact h) w
    exact ⟨ws2, l2, w2, m2, fun i m => g2 i fun z => m (List.mem_cons_of_mem _ z)⟩
  | .io i :: as, ms, _, _, W0, W2, L, L2, ws, os, _, _, .io (vs := vs) (v := v) hm es ra, l, o, h, w => by
    cases ms with
    | nil => simp at hm
    | cons m ms =>
      simp only [List.headD_cons] at hm
      subst hm
      have e : ioPick (true :: ms) (v :: vs) = v :: ioPick ms vs := rfl
      rw [e] at o
      cases os with
      | nil => simp [putBack] at h
      | cons x os =>
        simp only [putBack] at h
        cases o with
        | skip o =>
          have sb : (ws.set i []).flatten.Sublist ws.flatten := flat_none i
          obtain ⟨ws2, l2, w2, m2, g2⟩ := putBack_ok ra (l.forget i) o h (w.sub (List.Sublist.append (List.Sublist.refl _) (List.Sublist.append (List.Sublist.refl _) sb)))
          refine ⟨ws2, l2, w2, fun a m => (m2 a m).imp id fun z => sb.subset z, fun j m => ?_⟩
          have hj : i ≠ j := fun z => m (by rw [z]; exact List.mem_cons_self)
          obtain ⟨a1, a2⟩ := g2 j fun z => m (List.mem_cons_of_mem _ z)
          exact ⟨by rw [a1]; simp [List.getD_eq_getElem?_getD, List.getElem?_set_ne hj], by rw [a2, List.getElem?_set_ne hj]⟩
        | @cons d _ _ _ Wa Wb rd o =>
          have w1 : Wf H F (Wa ++ ((W0 ++ Wb) ++ ws.flatten)) := w.perm (by
            simp only [← List.append_assoc]
            exact List.Perm.append_right _ (List.Perm.append_right _ List.perm_append_comm))
          obtain ⟨l1, w2, m1⟩ := put_one (i := i) l es rd w1
          obtain ⟨ws2, l2, w3, m2, g2⟩ := putBack_ok (W0 := W0) ra l1 o h (by simpa [List.append_assoc] using w2)
          refine ⟨ws2, l2, w3, fun a m => ?_, fun j m => ?_⟩
          · rcases m2 a m with z | z
            · exact .inl (List.mem_append_right _ z)
            · exact (m1 a z).imp (fun z => List.mem_append_left _ z) id
          · have hj : i ≠ j := fun z => m (by rw [z]; exact List.mem_cons_self)
            obtain ⟨a1, a2⟩ := g2 j fun z => m (List.mem_cons_of_mem _ z)
            exact ⟨by rw [a1]; simp [List.getD_eq_getElem?_getD, List.getElem?_set_ne hj], by rw [a2, List.getElem?_set_ne hj]⟩

/-- what was lent is frozen -/
theorem fzLent_ok : ∀ {as : List Arg} {L : Lcs} {ws : List (List Addr)}, LReps K H F L σ ws → (∀ i, Arg.bor i ∈ as → ∀ a ∈ ws.getD i [], F a) → ∃ ws', LReps K H F (fzLent as L) σ ws' ∧ ws'.flatten.Sublist ws.flatten ∧ ∀ i, Arg.bor i ∈ as → ∀ a ∈ ws.getD i [], a ∉ ws'.flatten ∨ ¬ ws.flatten.Nodup
  | [], L, ws, l, _ => ⟨ws, l, List.Sublist.refl _, fun i m => nomatch m⟩
  | .val d :: as, L, ws, l, h => by
    obtain ⟨ws', l', s, g⟩ := fzLent_ok (as := as) l fun i m => h i (List.mem_cons_of_mem _ m)
    refine ⟨ws', l', s, fun i m => g i ?_⟩
    rcases List.mem_cons.mp m with z | z
    · cases z
    · exact z
  | .io j :: as, L, ws, l, h => by
    obtain ⟨ws', l', s, g⟩ := fzLent_ok (as := as) l fun i m => h i (List.mem_cons_of_mem _ m)
    refine ⟨ws', l', s, fun i m => g i ?_⟩
    rcases List.mem_cons.mp m with z | z
    · cases z
    · exact z
  | .bor j :: as, L, ws, l, h => by
    have hl := l.length
    have l1 : LReps K H F (fzAt L j) σ (ws.set j []) := by
      unfold fzAt
      cases e : L[j]? with
      | none =>
        have : L.length ≤ j := List.getElem?_eq_none_iff.mp e
        rw [List.set_eq_of_length_le (by omega)]
        exact l
      | some o =>
        cases o with
        | none =>
          have l2 := l.forget j
          have e2 : L.set j none = L := by
            apply List.ext_getElem?
            intro k
            by_cases hj : j = k
            · subst hj; rw [e, List.getElem?_set_self (List.getElem?_eq_some_iff.mp e).1]
            · rw [List.getElem?_set_ne hj]
          rw [e2] at l2
          exact l2
        | some d =>
          obtain ⟨v, e1, r, hi⟩ := l.get e
          exact l.put e1 (fz_one r (fun a f => f) fun a m => h j List.mem_cons_self a m)
    have sb : (ws.set j []).flatten.Sublist ws.flatten := flat_none j
    have sub : ∀ k, ∀ a ∈ (ws.set j []).getD k [], a ∈ ws.getD k [] := fun k a m => by
      by_cases hj : j = k
      · subst hj
        by_cases hi : j < ws.length
        · simp [List.getD_eq_getElem?_getD, List.getElem?_set_self hi] at m
        · rw [List.set_eq_of_length_le (by omega)] at m; exact m
      · simpa [List.getD_eq_getElem?_getD, List.getElem?_set_ne hj] using m
    obtain ⟨ws', l', s, g⟩ := fzLent_ok (as := as) l1 fun i m a ma => h i (List.mem_cons_of_mem _ m) a (sub i a ma)
    refine ⟨ws', l', s.trans sb, fun i m a ma => ?_⟩
    by_cases hn : ws.flatten.Nodup
    · refine .inl fun z => ?_
      by_cases hj : j = i
      · subst hj
        have z2 := s.subset z
        have hi : j < ws.length := by
          by_cases hi : j < ws.length
          · exact hi
          · rw [List.getD_eq_getElem?_getD, List.getElem?_eq_none (by omega)] at ma; simp at ma
        have nd2 := (flat_take hi).nodup_iff.mp hn
        exact (List.nodup_append.mp nd2).2.2 a ma a z2 rfl
      · have m' : Arg.bor i ∈ as := by
          rcases List.mem_cons.mp m with z | z
          · cases z; exact absurd rfl hj
          · exact z
        have ma' : a ∈ (ws.set j []).getD i [] := by simpa [List.getD_eq_getElem?_getD, List.getElem?_set_ne hj] using ma
        rcases g i m' a ma' with y | y
        · exact y z
        · exact y (hn.sublist sb)
    · exact .inr hn
end

section
variable {X : Cx} {Z : EnvQ} {Γ : Gam} {EX : XK} {σ : L2.St} {H : Hp} {F : Addr → Prop} {Wt : List Addr}
theorem io_none_of {as : List Arg} {L L1 : Lcs} {ds : List D} : True := trivial
/-- a call of a def, as V.call says -/
theorem call_sp {f : Str} {as : List Arg} {vs : List V} {L : Lcs} {ws : List (List Addr)} {Q : VK} (r : AReps X.K H F σ (Z.md f) as vs Wt) (l : LReps X.K H F L σ ws) (w : Wf H F (Wt ++ ws.flatten)) (hn : vs.length = (Z.ar f).length)
    (h : After X.K X.mg EX H F (Wt ++ ws.flatten) (callRun Z f as L) (fun d L' => ∀ v H', PostVs X.K H F (Wt ++ ws.flatten) σ [d] L' [v] H' → Q v H')) : SpF X.K X.mg Z f vs H Q EX := by
  unfold callRun at h
  cases ha : argVals as L with
  | none => rw [ha] at h; exact h.elim
  | some p =>
    obtain ⟨ds, L1⟩ := p
    rw [ha] at h
    simp only at h
    split at h <;> try (exact h.elim)
    rename_i hl
    obtain ⟨ws1, Wio, l1, p, g, rr, io⟩ := argVals_ok r l ha
    have lent : ∀ i, Arg.bor i ∈ as → ∃ d, L1[i]? = some (some d) := fun i m => by
      have := List.all_eq_true.mp hl _ m
      simp only at this
      split at this
      · exact ⟨_, by assumption⟩
      · cases this
    have nd := List.nodup_append.mp w.nd
    have ndp := List.nodup_append.mp (p.nodup_iff.mp nd.2.1)
    have mio : ∀ a ∈ Wio, a ∈ ws.flatten := fun a m => p.mem_iff.mpr (List.mem_append_left _ m)
    have mw1 : ∀ a ∈ ws1.flatten, a ∈ ws.flatten := fun a m => p.mem_iff.mpr (List.mem_append_right _ m)
    let Fc : Addr → Prop := fun a => F a ∨ a ∈ Wt ∨ ∃ i, Arg.bor i ∈ as ∧ a ∈ ws1.getD i []
    have hFc : ∀ a, F a → Fc a := fun a f => .inl f
    have fcd : ∀ a, Fc a → F a ∨ a ∈ Wt ∨ a ∈ ws1.flatten := fun a f => f.imp id (Or.imp id fun ⟨i, _, m⟩ => flat_mem m)
    have wfc : Wf H Fc Wio := ⟨ndp.1, fun a m z => by
      rcases fcd a z with z | z | z
      · exact w.dj a (List.mem_append_right _ (mio a m)) z
      · exact nd.2.2 a z a (mio a m) rfl
      · exact ndp.2.2 a m a z rfl, fun a f => by
      rcases fcd a f with z | z | z
      · exact w.tr a z
      · exact (r.muts a z).some
      · exact (l1.muts a z).some⟩
    have rds := rr Fc hFc (fun a m => .inr (.inl m)) (fun i m a ma => by
      obtain ⟨d, e⟩ := lent i m
      exact .inr (.inr ⟨i, m, by rw [g i d e]; exact ma⟩))
    refine ⟨ds, Fc, Wio, hn, rds, wfc, io, ?_⟩
    have mutW : ∀ a ∈ Wio, IsMut H a := fun a m => l.muts a (mio a m)
    cases hc : Z.call f ds with
    | bad => rw [hc] at h; exact h.elim
    | exn c x =>
      rw [hc] at h
      refine fun cls d H' F' e y => h cls d H' F' e ⟨fun a o ha n => y.keep a o ha fun z => n (List.mem_append_right _ (mio a z)), (fun a m => nomatch m), fun a f => y.mono a (hFc a f), fun a f => ?_, y.live⟩
      rcases y.f a f with z | z | z
      · rcases fcd a z with z | z | z
        · exact .inl z
        · exact .inr (.inl (List.mem_append_left _ z))
        · exact .inr (.inl (List.mem_append_right _ (mw1 a z)))
      · exact .inr (.inl (List.mem_append_right _ (mio a z)))
      · exact .inr (.inr z)
    | ok q =>
      obtain ⟨d, os⟩ := q
      rw [hc] at h
      simp only at h
      intro v H' F' W1 W2 rd ro wf' x
      have dis1 : ∀ a ∈ ws1.flatten, a ∉ Wio := fun a m z => ndp.2.2 a z a m rfl
      have ndw := List.nodup_append.mp wf'.nd
      have newW : ∀ a, (a ∈ W1 ∨ a ∈ W2) → a ∉ ws1.flatten := fun a m z => by
        rcases x.w a (List.mem_append.mpr m) with y | y
        · exact dis1 a z y
        · exact (l1.muts a z).some y
      have fin : ∀ a, a ∈ W1 ++ W2 → a ∈ Wt ++ ws.flatten ∨ H a = none := fun a m => (x.w a m).imp (fun z => List.mem_append_right _ (mio a z)) id
      split at h
      · -- nobody else's lists come back
        rename_i hs
        cases hp : putBack as os L1 with
        | none => rw [hp] at h; exact h.elim
        | some L2 =>
          rw [hp] at h
          simp only at h
          simp only [Bool.and_eq_true] at hs
          have rd' : Reps X.K H' F [d] [v] W1 := rd.noSh (by simpa [D.noShs] using hs.1)
          have ro' : OReps X.K H' F os (ioPick (Z.md f) vs) W2 := by
            have : ∀ {os : List (Option D)} {us : List V} {W : List Addr}, OReps X.K H' F' os us W → outNoSh os = true → OReps X.K H' F os us W := by
              intro os us W o
              induction o with
              | nil => intro _; exact .nil
              | skip _ ih => intro h; exact .skip (ih h)
              | cons r _ ih =>
                intro h
                simp only [outNoSh, Bool.and_eq_true] at h
                exact .cons (r.noSh (by simpa [D.noShs] using h.1)) (ih h.2)
            exact this ro hs.2
          have l1' : LReps X.K H' F L1 σ ws1 := l1.frame x.keep mutW dis1 (fun a f z => wfc.dj a z (hFc a f)) fun a f => f
          have w3 : Wf H' F (W1 ++ (W2 ++ ws1.flatten)) := ⟨by
            rw [← List.append_assoc]
            exact List.nodup_append.mpr ⟨wf'.nd, ndp.2.1, fun a m b m' e => by subst e; exact newW a (List.mem_append.mp m) m'⟩, fun a m z => by
            rcases List.mem_append.mp m with m | m
            · exact wf'.dj a (List.mem_append_left _ m) (x.mono a (hFc a z))
            · rcases List.mem_append.mp m with m | m
              · exact wf'.dj a (List.mem_append_right _ m) (x.mono a (hFc a z))
              · exact w.dj a (List.mem_append_right _ (mw1 a m)) z, fun a f => x.live a (w.tr a f)⟩
          obtain ⟨ws2, l2, w4, m4, _⟩ := putBack_ok (W0 := W1) r l1' ro' hp w3
          refine h v H' ⟨F, W1, ws2, rd', l2, w4, ⟨fun a o ha n => x.keep a o ha fun z => n (List.mem_append_right _ (mio a z)), fun a m => ?_, fun a f => f, fun a f => .inl f, x.live⟩⟩
          rcases List.mem_append.mp m with m | m
          · exact fin a (List.mem_append_left _ m)
          · rcases m4 a m with m | m
            · exact fin a (List.mem_append_right _ m)
            · exact .inl (List.mem_append_right _ (mw1 a m))
      · -- they may: what was lent is frozen
        cases hp : putBack as os (fzLent as L1) with
        | none => rw [hp] at h; exact h.elim
        | some L2 =>
          rw [hp] at h
          simp only at h
          obtain ⟨ws3, l3, sb3, g3⟩ := fzLent_ok (as := as) (F := Fc) (l1.up hFc) (fun i m a ma => .inr (.inr ⟨i, m, ma⟩))
          have dFc : ∀ a ∈ ws3.flatten, ¬ Fc a := fun a m z => by
            have m1 := sb3.subset m
            rcases z with z | z | ⟨i, mi, z⟩
            · exact w.dj a (List.mem_append_right _ (mw1 a m1)) z
            · exact nd.2.2 a z a (mw1 a m1) rfl
            · rcases g3 i mi a z with y | y
              · exact y m
              · exact y ndp.2.1
          have dis3 : ∀ a ∈ ws3.flatten, a ∉ Wio := fun a m => dis1 a (sb3.subset m)
          have l3' : LReps X.K H' F' (fzLent as L1) σ ws3 := l3.frame x.keep mutW dis3 (fun a f z => wfc.dj a z f) x.mono
          have w3 : Wf H' F' (W1 ++ (W2 ++ ws3.flatten)) := ⟨by
            rw [← List.append_assoc]
            exact List.nodup_append.mpr ⟨wf'.nd, ndp.2.1.sublist sb3, fun a m b m' e => by subst e; exact newW a (List.mem_append.mp m) (sb3.subset m')⟩, fun a m z => by
            rcases List.mem_append.mp m with m | m
            · exact wf'.dj a (List.mem_append_left _ m) z
            · rcases List.mem_append.mp m with m | m
              · exact wf'.dj a (List.mem_append_right _ m) z
              · rcases x.f a z with y | y | y
                · exact dFc a m y
                · exact dis3 a m y
                · exact (l1.muts a (sb3.subset m)).some y, wf'.tr⟩
          obtain ⟨ws2, l2, w4, m4, _⟩ := putBack_ok (W0 := W1) r l3' ro hp w3
          refine h v H' ⟨F', W1, ws2, rd, l2, w4, ⟨fun a o ha n => x.keep a o ha fun z => n (List.mem_append_right _ (mio a z)), fun a m => ?_, fun a f => x.mono a (hFc a f), fun a f => ?_, x.live⟩⟩
          · rcases List.mem_append.mp m with m | m
            · exact fin a (List.mem_append_left _ m)
            · rcases m4 a m with m | m
              · exact fin a (List.mem_append_right _ m)
              · exact .inl (List.mem_append_right _ (mw1 a (sb3.subset m)))
          · rcases x.f a f with z | z | z
            · rcases fcd a z with z | z | z
              · exact .inl z
              · exact .inr (.inl (List.mem_append_left _ z))
              · exact .inr (.inl (List.mem_append_right _ (mw1 a z)))
            · exact .inr (.inl (List.mem_append_right _ (mio a z)))
            · exact .inr (.inr z)
end
end Q

namespace Q
open PySem L2 PySem.Spec

/-! ## paths into own lists -/
inductive PathW (H : Hp) : V → List Int → V → Prop
  | nil {x} : PathW H x [] x
  | cons {b us i j v r x} : H b = some (.lst us) → ixN us.length i = some j → us[j]? = some v → PathW H v r x → PathW H (.ref b) (i :: r) x
theorem PathW.snoc {H : Hp} : ∀ {is : List Int} {i : Int} {v x : V}, PathW H v (is ++ [i]) x → ∃ b us j, PathW H v is (.ref b) ∧ H b = some (.lst us) ∧ ixN us.length i = some j ∧ us[j]? = some x
  | [], i, v, x, h => by
    cases h with
    | cons h1 h2 h3 h4 => cases h4; exact ⟨_, _, _, .nil, h1, h2, h3⟩
  | k :: is, i, v, x, h => by
    cases h with
    | cons h1 h2 h3 h4 =>
      obtain ⟨b, us, j, a1, a2, a3, a4⟩ := PathW.snoc (is := is) h4
      exact ⟨b, us, j, .cons h1 h2 h3 a1, a2, a3, a4⟩
theorem PathW.ka {H H' : Hp} (k : KA H H') {is : List Int} {v x : V} (h : PathW H v is x) : PathW H' v is x := by
  induction h with
  | nil => exact .nil
  | cons h1 h2 h3 _ ih => exact .cons (k _ _ h1) h2 h3 ih

section
variable {K : PySem.W.Frag} {H : Hp} {F : Addr → Prop}
theorem Reps.split3 : ∀ {es : List D} {vs : List V} {W : List Addr} {j : Nat} {d : D}, Reps K H F es vs W → es[j]? = some d →
    ∃ v Wa Wd Wb, vs[j]? = some v ∧ W = Wa ++ (Wd ++ Wb) ∧ Reps K H F (es.take j) (vs.take j) Wa ∧ Reps K H F [d] [v] Wd ∧ Reps K H F (es.drop (j + 1)) (vs.drop (j + 1)) Wb
  | [], _, _, j, _, _, e => by simp at e
  | e0 :: es, vs, W, j, d, r, e => by
    cases vs with
    | nil => cases r
    | cons v0 vs =>
      obtain ⟨W1, W2, rfl, r1, r2⟩ := Reps.cons_iff.mp r
      cases j with
      | zero =>
        simp at e; subst e
        exact ⟨v0, [], W1, W2, rfl, rfl, .nil, r1, by simpa using r2⟩
      | succ j =>
        obtain ⟨v, Wa, Wd, Wb, h1, rfl, h3, h4, h5⟩ := Reps.split3 (j := j) r2 (by simpa using e)
        exact ⟨v, W1 ++ Wa, Wd, Wb, by simpa using h1, by simp [List.append_assoc], by simpa using Reps.cons_iff.mpr ⟨W1, Wa, rfl, r1, h3⟩, h4, by simpa using h5⟩
theorem Reps.join3 {es : List D} {vs : List V} {Wa Wd Wb : List Addr} {j : Nat} {d : D} {v : V} (h1 : Reps K H F (es.take j) (vs.take j) Wa) (h2 : Reps K H F [d] [v] Wd) (h3 : Reps K H F (es.drop (j + 1)) (vs.drop (j + 1)) Wb) (hj : j < es.length) (hl : es.length = vs.length) :
    Reps K H F (es.set j d) (vs.set j v) (Wa ++ (Wd ++ Wb)) := by
  rw [List.set_eq_take_append_cons_drop, if_pos hj, List.set_eq_take_append_cons_drop, if_pos (by omega)]
  exact h1.append (Reps.cons_iff.mpr ⟨Wd, Wb, rfl, h2, h3⟩)
theorem frame1 {a : Addr} {us us' : List V} {ds : List D} {vs : List V} {W : List Addr} (s : H a = some (.lst us)) (r : Reps K H F ds vs W) (n : a ∉ W) (hf : ¬ F a) : Reps K (upd H a (.lst us')) F ds vs W := by
  refine r.frame (B := [a]) (fun c o h n => by rw [upd_ne (by simpa using n)]; exact h) (fun c m => ?_) (fun c m z => ?_) (fun c f z => ?_) fun _ f => f
  · have : c = a := by simpa using m
    subst this; exact .inl ⟨_, s⟩
  · have : c = a := by simpa using z
    subst this; exact n m
  · have : c = a := by simpa using z
    subst this; exact hf f
theorem lframe1 {a : Addr} {us us' : List V} {L : Lcs} {σ : L2.St} {ws : List (List Addr)} (s : H a = some (.lst us)) (r : LReps K H F L σ ws) (n : a ∉ ws.flatten) (hf : ¬ F a) : LReps K (upd H a (.lst us')) F L σ ws := by
  refine r.frame (B := [a]) (fun c o h n => by rw [upd_ne (by simpa using n)]; exact h) (fun c m => ?_) (fun c m z => ?_) (fun c f z => ?_) fun _ f => f
  · have : c = a := by simpa using m
    subst this; exact .inl ⟨_, s⟩
  · have : c = a := by simpa using z
    subst this; exact n m
  · have : c = a := by simpa using z
    subst this; exact hf f

/-- the list at a path, its place, and what a change there makes of the whole -/
theorem path_at : ∀ {is : List Int} {d : D} {v : V} {W : List Addr} {ds : List D}, Reps K H F [d] [v] W → Wf H F W → atPath d is = some (.lst true ds) →
    ∃ a us Wi W', PathW H v is (.ref a) ∧ H a = some (.lst us) ∧ Reps K H F ds us Wi ∧ W.Perm (a :: (Wi ++ W')) ∧
      ∀ (f : List D → Option (List D)) us' ds' d' Wi', Reps K (upd H a (.lst us')) F ds' us' Wi' → f ds = some ds' → updPath f d is = some d' → ∃ W2, Reps K (upd H a (.lst us')) F [d'] [v] W2 ∧ W2.Perm (a :: (Wi' ++ W'))
  | [], d, v, W, ds, r, w, h => by
    simp only [atPath, Option.some.injEq] at h
    subst h
    obtain ⟨a, us, Wi, rfl, s, re, _, e2, _⟩ := r.lstI
    have e2 := e2 rfl
    subst e2
    refine ⟨a, us, Wi, [], .nil, s, re, by simp, fun f us' ds' d' Wi' r' e1 e2 => ?_⟩
    simp only [updPath, e1, Option.some.injEq] at e2
    subst e2
    have := Reps.own (F := F) (W2 := []) (upd_same (H := H) (a := a) (o := .lst us')) r' .nil
    exact ⟨a :: Wi', by simpa using this, by simp⟩
  | i :: is, d, v, W, ds, r, w, h => by
    unfold atPath at h
    split at h
    · rename_i hh; exact absurd hh (List.cons_ne_nil _ _)
    · rename_i es i' is' e1
      cases e1
      split at h <;> try (cases h)
      rename_i d1 e1
      obtain ⟨b, vs, W1, rfl, s, re, _, e2, _⟩ := r.lstI
      have e2 := e2 rfl
      subst e2
      unfold atI at e1
      obtain ⟨j, ej, e1⟩ := Option.bind_eq_some_iff.mp e1
      have hl := re.length
      obtain ⟨v1, Wa, Wd, Wb, h1, rfl, ra, rd, rb⟩ := re.split3 e1
      have wd : Wf H F Wd := w.sub (((List.sublist_append_left Wd Wb).trans (List.sublist_append_right Wa _)).trans (List.sublist_cons_self ..))
      obtain ⟨a, us, Wi, W', p1, p2, p3, p4, p5⟩ := path_at rd wd h
      have ham : a ∈ Wd := p4.mem_iff.mpr List.mem_cons_self
      have nd := List.nodup_cons.mp w.nd
      have nd2 := List.nodup_append.mp nd.2
      have nd3 := List.nodup_append.mp nd2.2.1
      have hba : b ≠ a := fun z => nd.1 (by rw [z]; exact List.mem_append_right _ (List.mem_append_left _ ham))
      have hfa : ¬ F a := wd.dj a ham
      refine ⟨a, us, Wi, b :: (Wa ++ (Wb ++ W')), .cons s (by rw [← hl]; exact ej) h1 p1, p2, p3, ?_, fun f us' ds' d' Wi' r' e1' e2' => ?_⟩
      · refine List.Perm.trans (l₂ := b :: (Wa ++ ((a :: (Wi ++ W')) ++ Wb))) (List.Perm.cons _ (List.Perm.append_left _ (List.Perm.append_right _ p4))) ?_
        refine List.perm_iff_count.mpr fun c => ?_
        simp only [List.cons_append, List.count_cons, List.count_append]
        omega
      · unfold updPath at e2'
        simp only [ej, e1] at e2'
        split at e2' <;> simp only [Option.some.injEq, reduceCtorEq] at e2'
        rename_i d1' ed
        subst e2'
        obtain ⟨W2, q1, q2⟩ := p5 f us' ds' d1' Wi' r' e1' ed
        have ra' := frame1 (us' := us') p2 ra (fun z => nd2.2.2 a z a (List.mem_append_left _ ham) rfl) hfa
        have rb' := frame1 (us' := us') p2 rb (fun z => nd3.2.2 a ham a z rfl) hfa
        have hj := (List.getElem?_eq_some_iff.mp e1).1
        have rj := Reps.join3 ra' q1 rb' hj hl
        have ev : vs.set j v1 = vs := by
          obtain ⟨h2, h3⟩ := List.getElem?_eq_some_iff.mp h1
          rw [← h3]; exact List.set_getElem_self h2
        rw [ev] at rj
        have := Reps.own (F := F) (W2 := []) (show (upd H a (.lst us')) b = some (.lst vs) by rw [upd_ne hba]; exact s) rj .nil
        refine ⟨b :: (Wa ++ (W2 ++ Wb)), by simpa using this, ?_⟩
        refine List.Perm.trans (l₂ := b :: (Wa ++ ((a :: (Wi' ++ W')) ++ Wb))) (List.Perm.cons _ (List.Perm.append_left _ (List.Perm.append_right _ q2))) ?_
        refine List.perm_iff_count.mpr fun c => ?_
        simp only [List.cons_append, List.count_cons, List.count_append]
        omega
    · cases h

/-- a slot's list at a path is changed -/
theorem slot_upd {L : Lcs} {σ : L2.St} {ws : List (List Addr)} {i : Nat} {d : D} {is : List Int} {ds : List D} {W0 : List Addr} (l : LReps K H F L σ ws) (hd : L[i]? = some (some d)) (w : Wf H F (W0 ++ ws.flatten)) (hp : atPath d is = some (.lst true ds)) :
    ∃ v a us Wi W', σ[i]? = some (some v) ∧ PathW H v is (.ref a) ∧ H a = some (.lst us) ∧ Reps K H F ds us Wi ∧ (ws.getD i []).Perm (a :: (Wi ++ W')) ∧ ¬ F a ∧ a ∉ W0 ∧ a ∉ Wi ∧
      ∀ (f : List D → Option (List D)) us' ds' d' Wi' W0' R, f ds = some ds' → updPath f d is = some d' → Reps K (upd H a (.lst us')) F ds' us' Wi' → (W0 ++ Wi).Perm ((W0' ++ Wi') ++ R) →
        ∃ ws', LReps K (upd H a (.lst us')) F (L.set i (some d')) σ ws' ∧ Wf (upd H a (.lst us')) F (W0' ++ ws'.flatten) ∧ Ext H F (W0 ++ ws.flatten) (upd H a (.lst us')) F (W0' ++ ws'.flatten) := by
  obtain ⟨v, e1, r, hi⟩ := l.get hd
  have pw := flat_take (ws := ws) (i := i) hi
  have wp : Wf H F (W0 ++ (ws.getD i [] ++ (ws.set i []).flatten)) := w.perm (List.Perm.append_left _ pw)
  have wi : Wf H F (ws.getD i []) := wp.sub ((List.sublist_append_left ..).trans (List.sublist_append_right ..))
  obtain ⟨a, us, Wi, W', p1, p2, p3, p4, p5⟩ := path_at r wi hp
  have wq : Wf H F (W0 ++ ((a :: (Wi ++ W')) ++ (ws.set i []).flatten)) := wp.perm (List.Perm.append_left _ (List.Perm.append_right _ p4))
  have nq := List.nodup_append.mp wq.nd
  have nq2 := List.nodup_cons.mp nq.2.1
  refine ⟨v, a, us, Wi, W', e1, p1, p2, p3, p4, wq.dj a (List.mem_append_right _ List.mem_cons_self), fun z => nq.2.2 a z a List.mem_cons_self rfl, fun z => nq2.1 (List.mem_append_left _ (List.mem_append_left _ z)), fun f us' ds' d' Wi' W0' R e2 e3 r' pm => ?_⟩
  obtain ⟨W2, q1, q2⟩ := p5 f us' ds' d' Wi' r' e2 e3
  have hfa : ¬ F a := wq.dj a (List.mem_append_right _ List.mem_cons_self)
  have l1 := lframe1 (us' := us') p2 (l.forget i) (fun z => nq2.1 (List.mem_append_right _ z)) hfa
  have l2 := l1.put (i := i) e1 q1
  rw [List.set_set, List.set_set] at l2
  have pn : (ws.set i W2).flatten.Perm (W2 ++ (ws.set i []).flatten) := flat_set hi
  -- all that is ours, counted
  have big : ((W0' ++ (ws.set i W2).flatten) ++ R).Perm (W0 ++ ws.flatten) := by
    have c1 := fun c => List.perm_iff_count.mp pm c
    have c2 := fun c => List.perm_iff_count.mp pn c
    have c3 := fun c => List.perm_iff_count.mp pw c
    have c4 := fun c => List.perm_iff_count.mp p4 c
    have c5 := fun c => List.perm_iff_count.mp q2 c
    refine List.perm_iff_count.mpr fun c => ?_
    have c1 := c1 c; have c2 := c2 c; have c3 := c3 c; have c4 := c4 c; have c5 := c5 c
    simp only [List.count_append, List.count_cons] at *
    omega
  have mem : ∀ c ∈ W0' ++ (ws.set i W2).flatten, c ∈ W0 ++ ws.flatten := fun c m => big.mem_iff.mp (List.mem_append_left _ m)
  have al : ∀ c, H c ≠ none → (upd H a (.lst us')) c ≠ none := fun c h => by
    by_cases hc : c = a
    · subst hc; rw [upd_same]; exact fun z => nomatch z
    · rw [upd_ne hc]; exact h
  refine ⟨ws.set i W2, l2, ⟨?_, fun c m => w.dj c (mem c m), fun c f => al c (w.tr c f)⟩, ⟨fun c o h n => ?_, fun c m => .inl (mem c m), fun _ f => f, fun _ f => .inl f, al⟩⟩
  · exact (List.nodup_append.mp (big.nodup_iff.mpr w.nd)).1
  · rw [upd_ne fun z => n ?_]
    · exact h
    · rw [z]
      exact List.mem_append_right _ (flat_mem (i := i) (p4.mem_iff.mpr List.mem_cons_self))
end

/-! ## a path in the text -/
def chkPath (Γ : Gam) (i : Nat) : List P → Expr → Bool
  | [], e => match e with | .Name x _ => varOk Γ i x | _ => false
  | p :: ps, e => match e with | .Subscript a b _ => notSlice b && chkP Γ p b && chkPath Γ i ps a | _ => false
section
variable {X : Cx} {Z : EnvQ} {Γ : Gam} {EX : XK} {σ : L2.St} {H : Hp} {F : Addr → Prop} {L : Lcs} {ws : List (List Addr)}
theorem pathInts_snoc {G : Str → Option D} : ∀ {ps : List P} {p : P} {is : List Int}, pathInts G L (ps ++ [p]) = some is → ∃ js k, is = js ++ [k] ∧ pathInts G L ps = some js ∧ pur G p L = some (.int k)
  | [], p, is, h => by
    simp only [List.nil_append, pathInts] at h
    split at h
    · rename_i i js e1 e2
      cases e2
      cases h
      exact ⟨[], i, rfl, rfl, e1⟩
    · cases h
  | q :: ps, p, is, h => by
    simp only [List.cons_append, pathInts] at h
    split at h
    · rename_i i js e1 e2
      cases h
      obtain ⟨js', k, rfl, e3, e4⟩ := pathInts_snoc e2
      exact ⟨i :: js', k, rfl, by simp only [pathInts, e1, e3], e4⟩
    · cases h
theorem path_E (G : Good X Z Γ EX) {i : Nat} : ∀ {ps : List P} {e : Expr} {is : List Int} {v x : V} {H : Hp}, chkPath Γ i ps e = true → LReps X.K H F L σ ws → σ[i]? = some (some v) → pathInts Z.G L ps.reverse = some is → PathW H v is x →
    ∀ {Q : VK}, (∀ H', KA H H' → Q x H') → tW X e σ H Q
  | [], e, is, v, x, H, h, l, hv, hi, pw, Q, q => by
    unfold chkPath at h
    split at h <;> try (exact absurd h Bool.false_ne_true)
    simp only [List.reverse_nil, pathInts, Option.some.injEq] at hi
    subst hi
    cases pw
    exact toW (G.var h) ⟨v, hv, q H (KA.refl H)⟩
  | p :: ps, e, is, v, x, H, h, l, hv, hi, pw, Q, q => by
    unfold chkPath at h
    split at h <;> try (exact absurd h Bool.false_ne_true)
    rename_i a b pos
    simp only [Bool.and_eq_true] at h
    obtain ⟨⟨h1, h2⟩, h3⟩ := h
    rw [List.reverse_cons] at hi
    obtain ⟨js, k, rfl, e1, e2⟩ := pathInts_snoc hi
    obtain ⟨c, us, j, a1, a2, a3, a4⟩ := pw.snoc
    refine toW (pe_ix ix_list peW peW (plainIx h1)) (path_E G h3 l hv e1 a1 fun H1 k1 => ?_)
    refine (soundP G p b h2 (k1.lreps l) e2).1 fun u H2 pv => ?_
    obtain ⟨W1, r, m1, m2⟩ := pv.ex
    have k2 : KA H1 H2 := pv.ka
    refine ⟨c, us, k, x, rfl, r.intI, .inl (.inl (k2 _ _ (k1 _ _ a2))), ?_, ?_⟩
    · unfold atI; rw [a3]; exact a4
    · exact q H2 (k1.trans k2)
end
end Q

namespace Q
open PySem L2 PySem.Spec

/-! ## expressions in the text -/
def fnOk (Γ : Gam) (f : Str) : Expr → Bool
  | .Name x _ => decide (x = f) && glOk Γ f && decide (f ∈ Γ.fs)
  | _ => false
def sqAst (Γ : Gam) : SqO → Expr → Option Expr
  | .list, e => callB1 Γ "list" e
  | .tuple, e => callB1 Γ "tuple" e
  | .sum, e => callB1 Γ "sum" e
  | .all, e => callB1 Γ "all" e
  | .any, e => callB1 Γ "any" e
  | .min, e => callB1 Γ "min" e
  | .max, e => callB1 Γ "max" e
  | .sorted, e => callB1 Γ "sorted" e
def scOf (Γ : Gam) : Scope := { kind := .function, names := Γ.sn, isGenerator := false, isCoroutine := false }
def ownOf (Γ : Gam) (vs : List Nat) : List (Str × Nat) := vs.map fun i => ((Γ.N[i]?).getD (Str.ofString ""), i)
def relN (Γ : Gam) (scope : Scope) : List (Str × NameKind) := scope.names.map fun (n, k) => if (k == .free && Γ.sn.lookup n == some .cell) then (n, .cell) else (n, k)
def gamB (Γ : Gam) (scope : Scope) (vs : List Nat) : Gam := { Γ with sn := relN Γ scope, wr := (ownOf Γ vs).map (·.1) }
def blkGood (Γ : Gam) (scope : Scope) (vs : List Nat) : Bool :=
  blkC Γ.N (scOf Γ) scope (ownOf Γ vs) && decide vs.Nodup && ((ownOf Γ vs).map (·.1)).all fun x => (decide ((relN Γ scope).lookup x = some .local)) || (decide ((relN Γ scope).lookup x = some .cell) && decide (scope.names.lookup x = some .cell))

/-- its value may be a test -/
def tstOk : E → Bool
  | .ife .. => false
  | .mv _ => false
  | .nev => false
  | .dct => false
  | .dce .. => false
  | .catl .. => false
  | .popi .. => false
  | _ => true
def cnOk : Es → Bool
  | .nil => true
  | .cons e _ => tstOk e
def o1Ok (o : O1) (a : E) : Bool := match o with | .not => tstOk a | _ => true
def posOk (Γ : Gam) : Es → Option Expr → Bool
  | .nil, none => true
  | .cons (.p p) .nil, some e => chkP Γ p e
  | _, _ => false
def baseOk : Expr → Bool
  | .Call _ [] [] _ => false
  | _ => true
theorem base_of {X : Cx} {o : Expr} {nm : Str} (h : baseOk o = true) : attributeBase o nm X.env (eval o X.env) = eval o X.env := by
  cases o <;> first | rfl | skip
  rename_i f xs ks pos
  cases f <;> first | rfl | skip
  cases xs <;> first | rfl | skip
  cases ks <;> first | rfl | (simp [baseOk] at h)
def isStar : Expr → Bool
  | .Starred .. => true
  | _ => false
def starFl : List Expr → List Bool := List.map isStar
def unStar1 : Expr → Expr
  | .Starred e _ => e
  | e => e
def unStar : List Expr → List Expr := List.map unStar1
def chkPs (Γ : Gam) : List P → List Expr → Bool
  | [], [] => true
  | q :: qs, y :: ys => chkP Γ q y && chkPs Γ qs ys
  | _, _ => false
mutual
def chkE (Γ : Gam) : E → Expr → Bool
  | .p p, e => chkP Γ p e
  | .mv i, e => match e with | .Name x _ => varOk Γ i x | _ => false
  | .o1 o a, e => match ast1 Γ o e with | some x => chkE Γ a x && o1Ok o a | none => false
  | .o2 o a b, e => match ast2 Γ o e with | some (x, y) => chkE Γ a x && chkE Γ b y | none => false
  | .and a b, e => match e with | .BoolOp .And (x :: y :: zs) pos => chkE Γ a x && chkE Γ b (tailB .And y zs pos) && tstOk a && tstOk b | _ => false
  | .or a b, e => match e with | .BoolOp .Or (x :: y :: zs) pos => chkE Γ a x && chkE Γ b (tailB .Or y zs pos) && tstOk a && tstOk b | _ => false
  | .ife c a b, e => match e with | .IfExp t x y _ => chkE Γ c t && tstOk c && chkE Γ a x && chkE Γ b y | _ => false
  | .tup es, e => match e with | .Tuple xs _ _ => plainOf xs && decide (xs.length ≤ 1000) && chkEs Γ es xs | _ => false
  | .lst es, e => match e with | .List xs _ => plainOf xs && decide (xs.length ≤ 1000) && chkEs Γ es xs | _ => false
  | .call f kw es, e => match e with
    | .Call x xs ks _ => fnOk Γ f x && (match kw with
      | [] => ks.isEmpty && plainOf xs && !xs.isEmpty && chkEs Γ es xs
      | k :: kr => xs.isEmpty && decide (ks.map (·.arg) = (k :: kr).map some) && decide ((f, k :: kr) ∈ Γ.ks) && chkEs Γ es (ks.map (·.value)))
    | _ => false
  | .sq o a, e => match sqAst Γ o e with | some x => chkE Γ a x | none => false
  | .lc vs tg s cs c, e => match e with
    | .ListComp elt [⟨tgt, iter, ifs, as⟩] scope _ => decide (as = 0) && notSet iter && blkGood Γ scope vs && chkTg (gamB Γ scope vs) tg tgt && (tg.slots.all fun i => decide (i ∈ vs)) && chkSrc Γ tgt s iter && chkEs (gamB Γ scope vs) cs ifs && decide (ifs.length ≤ 1) && cnOk cs && chkE (gamB Γ scope vs) c elt
    | _ => false
  | .cat a b, e => match binAst .Add e with | some (x, y) => chkE Γ a x && chkE Γ b y | none => false
  | .rep a b, e => match binAst .Mult e with | some (x, y) => chkE Γ a x && chkE Γ b y | none => false
  | .slice a lo hi, e => match e with | .Subscript x (.Slice l h none _) _ => chkE Γ a x && posOk Γ lo l && posOk Γ hi h | _ => false
  | .popi i path k, e => match e with
    | .Call (.Attribute o nm apos) xs [] cpos => decide (nm = Str.ofString "pop") && (apos.endLine == cpos.line) && chkPath Γ i path.reverse o && plainOf xs && decide (xs.length ≤ 1) && chkEs Γ k xs
    | _ => false
  | .idx a b, e => match e with
    | .Call (.Attribute o nm apos) [x] [] cpos => decide (nm = Str.ofString "index") && (apos.endLine == cpos.line) && notStar x && baseOk o && chkE Γ a o && chkP Γ b x
    | _ => false
  | .lr1 b, e => match callB1 Γ "list" e with
    | some (.Call f [y] [] _) => bltOk Γ "range" f && notStar y && chkE Γ b y
    | _ => false
  | .lr2 a b, e => match callB1 Γ "list" e with
    | some (.Call f [x, y] [] _) => bltOk Γ "range" f && notStar x && notStar y && chkE Γ a x && chkE Γ b y
    | _ => false
  | .star fl es, e => match e with | .List xs _ => decide (starFl xs = fl) && chkEs Γ es (unStar xs) | _ => false
  | .catl p qs, e => match binAst .Add e with
    | some (x, .List ys _) => chkP Γ p x && plainOf ys && decide (ys.length ≤ 1000) && chkPs Γ qs ys
    | _ => false
  | .dct, e => match e with | .Dict [] [] _ => true | _ => false
  | .dce i vs, e => match callB1 Γ "dict" e with
    | some (.ListComp elt [⟨tgt, .Name x p, [], as⟩] scope _) => decide (as = 0) && blkGood Γ scope vs && varOk Γ i x
    | _ => false
  | .nev, _ => true
def chkEs (Γ : Gam) : Es → List Expr → Bool
  | .nil, [] => true
  | .cons e es, x :: xs => chkE Γ e x && chkEs Γ es xs
  | _, _ => false
def chkSrc (Γ : Gam) (tg : Expr) : Src → Expr → Bool
  | .e e, x => chkE Γ e x
  | .rng es, x => match x with | .Call f xs [] _ => bltOk Γ "range" f && plainOf xs && (decide (xs.length = 1) || decide (xs.length = 2)) && chkEs Γ es xs | _ => false
  | .zip a b, x => match callB2 Γ "zip" x, tg with | some (y, z), .Tuple .. => chkE Γ a y && chkE Γ b z | _, _ => false
  | .enum e, x => match callB1 Γ "enumerate" x, tg with | some y, .Tuple .. => chkE Γ e y | _, _ => false
end

/-- an expression as a test -/
def tst (Z : EnvQ) (c : E) (L : Lcs) : Res (Bool × Lcs) := (rdW Z c (fun L => den Z c L) L).bind fun r => (Res.of (tru r.1)).bind fun b => .ok (b, r.2)

def SE (c : E) : Prop := ∀ {X : Cx} {Z : EnvQ} {Γ : Gam} {EX : XK}, Good X Z Γ EX → ∀ {e : Expr}, chkE Γ c e = true → ∀ {L : Lcs} {σ : L2.St} {ws : List (List Addr)} {H : Hp} {F : Addr → Prop}, LReps X.K H F L σ ws → Wf H F ws.flatten →
  GoalE X EX e σ H F ws.flatten (den Z c L) ∧ (tstOk c = true → GoalT X EX e σ H F ws.flatten (tst Z c L))

def tptW (X : Cx) (ifs : List Expr) : TT := fun σ H Q => ∀ pins s, Inv X pins σ H s →
  wpAny (model X.prog X.w) X.A (forIn ifs true fun c r => if r = true then do let ok ← isTrue c X.env (eval c X.env); pure (ForInStep.yield ok) else pure (ForInStep.yield r)) (TP X pins σ Q) X.xe s
def GoalC (X : Cx) (EX : XK) (ifs : List Expr) (σ : L2.St) (H : Hp) (F : Addr → Prop) (W : List Addr) (r : Res (Bool × Lcs)) : Prop :=
  ∀ Q : Bool → Hp → Prop, After X.K X.mg EX H F W r (fun b L' => ∀ H', PostT X.K H F W σ L' H' → Q b H') → tptW X ifs σ H Q
def PostA (K : PySem.W.Frag) (H : Hp) (F : Addr → Prop) (W : List Addr) (σ : L2.St) (ms : List Bool) (as : List Arg) (L' : Lcs) (vs : List V) (H' : Hp) : Prop :=
  ∃ (F' : Addr → Prop) (W1 : List Addr) (ws' : List (List Addr)), AReps K H' F' σ ms as vs W1 ∧ LReps K H' F' L' σ ws' ∧ Wf H' F' (W1 ++ ws'.flatten) ∧ Ext H F W H' F' (W1 ++ ws'.flatten)
def GoalAr (X : Cx) (EX : XK) (ms : List Bool) (es : List Expr) (σ : L2.St) (H : Hp) (F : Addr → Prop) (W : List Addr) (r : Res (List Arg × Lcs)) : Prop :=
  ∀ Q : List V → Hp → Prop, After X.K X.mg EX H F W r (fun as L' => ∀ vs H', PostA X.K H F W σ ms as L' vs H' → Q vs H') → taW X es σ H Q
def SEs (c : Es) : Prop := ∀ {X : Cx} {Z : EnvQ} {Γ : Gam} {EX : XK}, Good X Z Γ EX → ∀ {es : List Expr}, plainOf es = true → chkEs Γ c es = true → ∀ {L : Lcs} {σ : L2.St} {ws : List (List Addr)} {H : Hp} {F : Addr → Prop}, LReps X.K H F L σ ws → Wf H F ws.flatten →
  GoalA X EX es σ H F ws.flatten (dens Z c L) ∧ (∀ ms, GoalAr X EX ms es σ H F ws.flatten (args Z ms c L))
def tkW (X : Cx) (ks : List PySem.Keyword) : TA := fun σ H Q => ∀ pos pins s, Inv X pins σ H s → wpAny (model X.prog X.w) X.A (evalAll ((backToKw pos (keywordEach ks X.env)).map (·.2))) (AP X pins σ Q) X.xe s
theorem pkW {X : Cx} {ks : List PySem.Keyword} : PK X ks (tkW X ks) := ⟨fun pos pins s σ H Q I h => h pos pins s I⟩
/-- the same of keywords' values -/
def SKs (c : Es) : Prop := ∀ {X : Cx} {Z : EnvQ} {Γ : Gam} {EX : XK}, Good X Z Γ EX → ∀ {ks : List PySem.Keyword}, chkEs Γ c (ks.map (·.value)) = true → ∀ {L : Lcs} {σ : L2.St} {ws : List (List Addr)} {H : Hp} {F : Addr → Prop}, LReps X.K H F L σ ws → Wf H F ws.flatten →
  ∀ Q : List V → Hp → Prop, After X.K X.mg EX H F ws.flatten (args Z [] c L) (fun as L' => ∀ vs H', PostA X.K H F ws.flatten σ [] as L' vs H' → Q vs H') → tkW X ks σ H Q
def SCn (c : Es) : Prop := ∀ {X : Cx} {Z : EnvQ} {Γ : Gam} {EX : XK}, Good X Z Γ EX → ∀ {es : List Expr}, es.length ≤ 1 → cnOk c = true → chkEs Γ c es = true → ∀ {L : Lcs} {σ : L2.St} {ws : List (List Addr)} {H : Hp} {F : Addr → Prop}, LReps X.K H F L σ ws → Wf H F ws.flatten →
  GoalC X EX es σ H F ws.flatten (conds Z c L)
def SSrc (c : Src) : Prop := ∀ {X : Cx} {Z : EnvQ} {Γ : Gam} {EX : XK}, Good X Z Γ EX → ∀ {tg e : Expr}, chkSrc Γ tg c e = true → ∀ {L : Lcs} {σ : L2.St} {ws : List (List Addr)} {H : Hp} {F : Addr → Prop}, LReps X.K H F L σ ws → Wf H F ws.flatten →
  GoalI X EX tg e σ H F ws.flatten (src Z c L)

section
variable {X : Cx} {Z : EnvQ} {Γ : Gam} {EX : XK} {σ : L2.St} {H : Hp} {F : Addr → Prop} {L : Lcs} {ws : List (List Addr)} {e : Expr}
/-- read at once -/
theorem rd_ok (G : Good X Z Γ EX) {c : E} (h : chkE Γ c e = true) (l : LReps X.K H F L σ ws) (w : Wf H F ws.flatten) (g : GoalE X EX e σ H F ws.flatten (den Z c L)) : GoalR X EX e σ H F ws.flatten (rdW Z c (fun L => den Z c L) L) := by
  have gen : (∀ p, c ≠ .p p) → rdW Z c (fun L => den Z c L) L = den Z c L := fun hn => by
    cases c <;> first | rfl | exact absurd rfl (hn _)
  by_cases hp : ∃ p, c = .p p
  · obtain ⟨p, rfl⟩ := hp
    intro Q q
    rw [rdW_p] at q
    cases e1 : pur Z.G p L with
    | none => rw [e1] at q; exact q.elim
    | some d =>
      rw [e1] at q
      refine (soundP G p e (by simpa [chkE] using h) l e1).1 fun v H' pv => ?_
      obtain ⟨W1, r, m1, m2⟩ := pv.ex
      exact q v H' ⟨F, W1, ws, r, pv.ka.lreps l, pv.ka.wf w, pv.ka.ext⟩
  · rw [gen fun p z => hp ⟨p, z⟩]
    intro Q q
    refine g Q ?_
    revert q
    generalize den Z c L = r
    intro q
    cases r with
    | ok a => exact fun v H' p => q v H' p.toR
    | exn c x => exact q
    | bad => exact q
/-- a value's truth -/
theorem tst_gen {c : E} (ht : ttOk e = true) (g : GoalR X EX e σ H F ws.flatten (rdW Z c (fun L => den Z c L) L)) : GoalT X EX e σ H F ws.flatten (tst Z c L) := by
  intro Q q
  refine tt_gen ht (g.use q fun d L1 v H1 h1 pr => ?_)
  obtain ⟨b, eb, h2⟩ := h1.of
  obtain ⟨F', W1, ws', r, l, w, x⟩ := pr
  exact ⟨b, tru_of r eb, h2 H1 ⟨F', ws', l, w, x⟩⟩

theorem mv_ok (G : Good X Z Γ EX) {i : Nat} (h : chkE Γ (.mv i) e = true) (l : LReps X.K H F L σ ws) (w : Wf H F ws.flatten) : GoalE X EX e σ H F ws.flatten (den Z (.mv i) L) := by
  intro Q q
  simp only [chkE] at h
  split at h <;> try (exact absurd h Bool.false_ne_true)
  rw [den_mv] at q
  split at q <;> try (exact q.elim)
  rename_i d hd
  obtain ⟨v, e1, r, hi⟩ := l.get hd
  refine toW (G.var h) ⟨v, e1, q v H ⟨F, _, _, r, l.forget i, w.perm (flat_take hi), Ext.refl.sub fun a m => (flat_take hi).mem_iff.mpr m⟩⟩

theorem o1_E (G : Good X Z Γ EX) {o : O1} {a : E} (ih : SE a) (h : chkE Γ (.o1 o a) e = true) (l : LReps X.K H F L σ ws) (w : Wf H F ws.flatten) :
    GoalE X EX e σ H F ws.flatten (den Z (.o1 o a) L) ∧ (tstOk (.o1 o a) = true → GoalT X EX e σ H F ws.flatten (tst Z (.o1 o a) L)) := by
  simp only [chkE] at h
  split at h <;> try (exact absurd h Bool.false_ne_true)
  rename_i x he
  simp only [Bool.and_eq_true] at h
  obtain ⟨g, gt⟩ := ih G h.1 l w
  have gr := rd_ok G h.1 l w g
  have val : GoalE X EX e σ H F ws.flatten (den Z (.o1 o a) L) := by
    intro Q q
    rw [den_o1] at q
    refine o1_ok G he (gr.use q fun d L1 v H1 h1 pr => ?_)
    obtain ⟨y, ey, h2⟩ := h1.of
    obtain ⟨F', W1, ws', r, l1, w1, x1⟩ := pr
    exact ⟨F', d, y, W1, r, ey, fun v' H' k rr => h2 v' H' ⟨F', [], ws', rr F', k.lreps l1, by simpa using k.wf w1, by simpa using x1.trans k.ext⟩⟩
  refine ⟨val, fun _ => ?_⟩
  rcases ast1_ttOk he with ⟨pos, rfl, rfl⟩ | ht
  · intro Q q
    have e1 : tst Z (.o1 .not a) L = (tst Z a L).bind fun r => .ok (!r.1, r.2) := by
      unfold tst
      have : rdW Z (.o1 .not a) (fun L => den Z (.o1 .not a) L) L = den Z (.o1 .not a) L := rfl
      rw [this, den_o1]
      generalize rdW Z a (fun L => den Z a L) L = r
      cases r with
      | ok p =>
        simp only [Res.bind, ap1]
        cases hk : tru p.1 with
        | none => rfl
        | some b => rfl
      | exn c x => rfl
      | bad => rfl
    rw [e1] at q
    exact toTW (pt_not ptW) ((gt h.2).use q fun b L1 H1 h1 pt => h1 H1 pt)
  · exact tst_gen ht (rd_ok (c := .o1 o a) G (by simp only [chkE, he, Bool.and_eq_true]; exact h) l w val)

theorem o2_E (G : Good X Z Γ EX) {o : O2} {a b : E} (iha : SE a) (ihb : SE b) (h : chkE Γ (.o2 o a b) e = true) (l : LReps X.K H F L σ ws) (w : Wf H F ws.flatten) :
    GoalE X EX e σ H F ws.flatten (den Z (.o2 o a b) L) ∧ (tstOk (.o2 o a b) = true → GoalT X EX e σ H F ws.flatten (tst Z (.o2 o a b) L)) := by
  have h0 := h
  simp only [chkE] at h
  split at h <;> try (exact absurd h Bool.false_ne_true)
  rename_i x y he
  simp only [Bool.and_eq_true] at h
  have val : GoalE X EX e σ H F ws.flatten (den Z (.o2 o a b) L) := by
    intro Q q
    rw [den_o2] at q
    refine o2_ok G he ((iha G h.1 l w).1.use q fun d L1 v H1 h1 pv => ?_)
    obtain ⟨F1, W1, ws1, r1, l1, w1, x1⟩ := pv
    have gb := rd_ok G h.2 l1 w1.right (ihb G h.2 l1 w1.right).1
    refine gb.use (h1.step x1 fun a m => List.mem_append_right _ m) fun d2 L2 u H2 h2 pr => ?_
    obtain ⟨F2, W2, ws2, r2, l2, w2, x2⟩ := pr
    obtain ⟨r1', w12, x12⟩ := aside r1 l1.muts w1 x2 w2
    obtain ⟨z, ez, h3⟩ := h2.of
    refine ⟨F2, F2, d, d2, z, W1, W2, r1', r2, ez, fun v' H' W' k rr sb => h3 v' H' ⟨F2, W', ws2, rr, k.lreps l2, k.wf (w12.sub (List.Sublist.append sb (List.Sublist.refl _))), ?_⟩⟩
    exact ((x1.trans x12).trans k.ext).sub fun a m => (List.Sublist.append sb (List.Sublist.refl _)).subset m
  exact ⟨val, fun _ => tst_gen (ast2_ttOk he) (rd_ok (c := .o2 o a b) G h0 l w val)⟩

theorem PostT.trans {K : PySem.W.Frag} {H1 : Hp} {F1 : Addr → Prop} {W W1 : List Addr} {L' : Lcs} {H' : Hp} (x : Ext H F W H1 F1 W1) (p : PostT K H1 F1 W1 σ L' H') : PostT K H F W σ L' H' := by
  obtain ⟨F', ws', l, w, y⟩ := p
  exact ⟨F', ws', l, w, x.trans y⟩
theorem bl_post {K : PySem.W.Frag} {H1 : Hp} {F1 : Addr → Prop} {W : List Addr} {ws1 : List (List Addr)} {L' : Lcs} {k : Bool} (l : LReps K H1 F1 L' σ ws1) (w : Wf H1 F1 ws1.flatten) (x : Ext H F W H1 F1 ws1.flatten) : PostVs K H F W σ [.bl k] L' [.bl k] H1 :=
  ⟨F1, [], ws1, .bl .nil, l, by simpa using w, by simpa using x⟩

theorem and_E (G : Good X Z Γ EX) {a b : E} (iha : SE a) (ihb : SE b) (h : chkE Γ (.and a b) e = true) (l : LReps X.K H F L σ ws) (w : Wf H F ws.flatten) :
    GoalE X EX e σ H F ws.flatten (den Z (.and a b) L) ∧ (tstOk (.and a b) = true → GoalT X EX e σ H F ws.flatten (tst Z (.and a b) L)) := by
  simp only [chkE] at h
  split at h <;> try (exact absurd h Bool.false_ne_true)
  rename_i x y zs pos
  simp only [Bool.and_eq_true] at h
  obtain ⟨⟨⟨ha, hb⟩, ta⟩, tb⟩ := h
  obtain ⟨ga, gta⟩ := iha G ha l w
  refine ⟨?_, fun _ => ?_⟩
  · intro Q q
    rw [den_and] at q
    refine toW (pe_and peW tailPE) ((rd_ok G ha l w ga).use q fun d L1 v H1 h1 pr => ?_)
    obtain ⟨F1, W1, ws1, r1, l1, w1, x1⟩ := pr
    obtain ⟨k, rfl, h2⟩ := h1.bool
    refine ⟨k, r1.blI, ?_⟩
    cases k with
    | true =>
      rw [if_pos rfl] at h2 ⊢
      refine (rd_ok G hb l1 w1 (ihb G hb l1 w1).1).use (h2.step x1 fun a m => m) fun d2 L2 u H2 h3 pr2 => ?_
      obtain ⟨F2, W2, ws2, r2, l2, w2, x2⟩ := pr2
      obtain ⟨k2, rfl, h4⟩ := h3.bool
      have h4 : ∀ v H', PostVs X.K H F ws.flatten σ [.bl k2] L2 [v] H' → Q v H' := h4
      rw [r2.blI]
      exact h4 _ _ (bl_post l2 w2 (x1.trans x2))
    | false =>
      rw [if_neg Bool.false_ne_true] at h2 ⊢
      have h2 : ∀ v H', PostVs X.K H F ws.flatten σ [.bl false] L1 [v] H' → Q v H' := h2
      exact h2 _ _ (bl_post l1 w1 x1)
  · intro Q q
    have e1 : tst Z (.and a b) L = (rdW Z a (fun L => den Z a L) L).bind fun r => (bool? r.1).bind fun k => if k then (rdW Z b (fun L => den Z b L) r.2).bind fun q => (bool? q.1).bind fun k2 => .ok (k2, q.2) else .ok (false, r.2) := by
      unfold tst
      have : rdW Z (.and a b) (fun L => den Z (.and a b) L) L = den Z (.and a b) L := rfl
      rw [this, den_and]
      generalize rdW Z a (fun L => den Z a L) L = r
      cases r with
      | ok p =>
        simp only [Res.bind]
        cases p.1 <;> simp only [bool?]
        rename_i k
        cases k with
        | false => rfl
        | true =>
          simp only [if_true]
          generalize rdW Z b (fun L => den Z b L) p.2 = r2
          cases r2 with
          | ok p2 => simp only; cases p2.1 <;> rfl
          | exn c x => rfl
          | bad => rfl
      | exn c x => rfl
      | bad => rfl
    rw [e1] at q
    have toT : ∀ {c : E} {L : Lcs} {H1 : Hp} {F1 : Addr → Prop} {W1 : List Addr} {f : Bool → Lcs → Res (Bool × Lcs)} {post : Bool → Lcs → Prop}, After X.K X.mg EX H1 F1 W1 ((rdW Z c (fun L => den Z c L) L).bind fun r => (bool? r.1).bind fun k => f k r.2) post → After X.K X.mg EX H1 F1 W1 ((tst Z c L).bind fun r => f r.1 r.2) post := by
      intro c L H1 F1 W1 f post hq
      unfold tst
      revert hq
      generalize rdW Z c (fun L => den Z c L) L = r
      intro hq
      cases r with
      | ok p =>
        obtain ⟨d, L1⟩ := p
        cases d <;> first | exact hq.elim | exact hq
      | exn c x => exact hq
      | bad => exact hq
    refine toTW (PW.pt (pw_and ptW tailAnd)) ((gta ta).use (toT (f := fun k L => if k = true then (rdW Z b (fun L => den Z b L) L).bind fun q => (bool? q.1).bind fun k2 => .ok (k2, q.2) else .ok (false, L)) q) fun k L1 H1 h1 pt => ?_)
    obtain ⟨F1, ws1, l1, w1, x1⟩ := pt
    cases k with
    | true =>
      rw [if_pos rfl]
      rw [if_pos rfl] at h1
      exact ((ihb G hb l1 w1).2 tb).use (f := fun r => .ok (r.1, r.2)) (toT (f := fun k L => .ok (k, L)) (h1.step x1 fun a m => m)) fun k2 L2 H2 h2 pt2 => h2 H2 (PostT.trans x1 pt2)
    | false =>
      rw [if_neg Bool.false_ne_true]
      rw [if_neg Bool.false_ne_true] at h1
      exact h1 H1 ⟨F1, ws1, l1, w1, x1⟩
theorem or_E (G : Good X Z Γ EX) {a b : E} (iha : SE a) (ihb : SE b) (h : chkE Γ (.or a b) e = true) (l : LReps X.K H F L σ ws) (w : Wf H F ws.flatten) :
    GoalE X EX e σ H F ws.flatten (den Z (.or a b) L) ∧ (tstOk (.or a b) = true → GoalT X EX e σ H F ws.flatten (tst Z (.or a b) L)) := by
  simp only [chkE] at h
  split at h <;> try (exact absurd h Bool.false_ne_true)
  rename_i x y zs pos
  simp only [Bool.and_eq_true] at h
  obtain ⟨⟨⟨ha, hb⟩, ta⟩, tb⟩ := h
  obtain ⟨ga, gta⟩ := iha G ha l w
  refine ⟨?_, fun _ => ?_⟩
  · intro Q q
    rw [den_or] at q
    refine toW (pe_or peW tailPE) ((rd_ok G ha l w ga).use q fun d L1 v H1 h1 pr => ?_)
    obtain ⟨F1, W1, ws1, r1, l1, w1, x1⟩ := pr
    obtain ⟨k, rfl, h2⟩ := h1.bool
    refine ⟨k, r1.blI, ?_⟩
    cases k with
    | false =>
      rw [if_neg Bool.false_ne_true] at h2 ⊢
      refine (rd_ok G hb l1 w1 (ihb G hb l1 w1).1).use (h2.step x1 fun a m => m) fun d2 L2 u H2 h3 pr2 => ?_
      obtain ⟨F2, W2, ws2, r2, l2, w2, x2⟩ := pr2
      obtain ⟨k2, rfl, h4⟩ := h3.bool
      have h4 : ∀ v H', PostVs X.K H F ws.flatten σ [.bl k2] L2 [v] H' → Q v H' := h4
      rw [r2.blI]
      exact h4 _ _ (bl_post l2 w2 (x1.trans x2))
    | true =>
      rw [if_pos rfl] at h2 ⊢
      have h2 : ∀ v H', PostVs X.K H F ws.flatten σ [.bl true] L1 [v] H' → Q v H' := h2
      exact h2 _ _ (bl_post l1 w1 x1)
  · intro Q q
    have e1 : tst Z (.or a b) L = (rdW Z a (fun L => den Z a L) L).bind fun r => (bool? r.1).bind fun k => if k then .ok (true, r.2) else (rdW Z b (fun L => den Z b L) r.2).bind fun q => (bool? q.1).bind fun k2 => .ok (k2, q.2) := by
      unfold tst
      have : rdW Z (.or a b) (fun L => den Z (.or a b) L) L = den Z (.or a b) L := rfl
      rw [this, den_or]
      generalize rdW Z a (fun L => den Z a L) L = r
      cases r with
      | ok p =>
        simp only [Res.bind]
        cases p.1 <;> simp only [bool?]
        rename_i k
        cases k with
        | true => rfl
        | false =>
          simp only [Bool.false_eq_true, if_false]
          generalize rdW Z b (fun L => den Z b L) p.2 = r2
          cases r2 with
          | ok p2 => simp only; cases p2.1 <;> rfl
          | exn c x => rfl
          | bad => rfl
      | exn c x => rfl
      | bad => rfl
    rw [e1] at q
    have toT : ∀ {c : E} {L : Lcs} {H1 : Hp} {F1 : Addr → Prop} {W1 : List Addr} {f : Bool → Lcs → Res (Bool × Lcs)} {post : Bool → Lcs → Prop}, After X.K X.mg EX H1 F1 W1 ((rdW Z c (fun L => den Z c L) L).bind fun r => (bool? r.1).bind fun k => f k r.2) post → After X.K X.mg EX H1 F1 W1 ((tst Z c L).bind fun r => f r.1 r.2) post := by
      intro c L H1 F1 W1 f post hq
      unfold tst
      revert hq
      generalize rdW Z c (fun L => den Z c L) L = r
      intro hq
      cases r with
      | ok p =>
        obtain ⟨d, L1⟩ := p
        cases d <;> first | exact hq.elim | exact hq
      | exn c x => exact hq
      | bad => exact hq
    refine toTW (PW.pt (pw_or ptW tailOr)) ((gta ta).use (toT (f := fun k L => if k = true then .ok (true, L) else (rdW Z b (fun L => den Z b L) L).bind fun q => (bool? q.1).bind fun k2 => .ok (k2, q.2)) q) fun k L1 H1 h1 pt => ?_)
    obtain ⟨F1, ws1, l1, w1, x1⟩ := pt
    cases k with
    | false =>
      rw [if_neg Bool.false_ne_true]
      rw [if_neg Bool.false_ne_true] at h1
      exact ((ihb G hb l1 w1).2 tb).use (f := fun r => .ok (r.1, r.2)) (toT (f := fun k L => .ok (k, L)) (h1.step x1 fun a m => m)) fun k2 L2 H2 h2 pt2 => h2 H2 (PostT.trans x1 pt2)
    | true =>
      rw [if_pos rfl]
      rw [if_pos rfl] at h1
      exact h1 H1 ⟨F1, ws1, l1, w1, x1⟩

theorem ife_E (G : Good X Z Γ EX) {c a b : E} (ihc : SE c) (iha : SE a) (ihb : SE b) (h : chkE Γ (.ife c a b) e = true) (l : LReps X.K H F L σ ws) (w : Wf H F ws.flatten) :
    GoalE X EX e σ H F ws.flatten (den Z (.ife c a b) L) := by
  simp only [chkE] at h
  split at h <;> try (exact absurd h Bool.false_ne_true)
  rename_i t x y pos
  simp only [Bool.and_eq_true] at h
  obtain ⟨⟨⟨hc, tc⟩, ha⟩, hb⟩ := h
  intro Q q
  have e1 : den Z (.ife c a b) L = (tst Z c L).bind fun r => if r.1 then den Z a r.2 else den Z b r.2 := by
    rw [den_ife]
    unfold tst
    generalize rdW Z c (fun L => den Z c L) L = r
    cases r with
    | ok p => simp only [Res.bind]; cases tru p.1 <;> rfl
    | exn c x => rfl
    | bad => rfl
  rw [e1] at q
  refine toW (pe_ifExp ptW peW peW) (((ihc G hc l w).2 tc).use q fun k L1 H1 h1 pt => ?_)
  obtain ⟨F1, ws1, l1, w1, x1⟩ := pt
  have fin : ∀ {d : D} {L' : Lcs} {v : V} {H' : Hp}, PostVs X.K H1 F1 ws1.flatten σ [d] L' [v] H' → PostVs X.K H F ws.flatten σ [d] L' [v] H' := fun ⟨F', W', ws', r, l', w', x'⟩ => ⟨F', W', ws', r, l', w', x1.trans x'⟩
  have fin2 : ∀ {r : Res (D × Lcs)}, After X.K X.mg EX H F ws.flatten r (fun d L' => ∀ v H', PostVs X.K H F ws.flatten σ [d] L' [v] H' → Q v H') → After X.K X.mg EX H1 F1 ws1.flatten r (fun d L' => ∀ v H', PostVs X.K H1 F1 ws1.flatten σ [d] L' [v] H' → Q v H') := fun {r} hq => by
    have := hq.step x1 (W2 := ws1.flatten) fun a m => m
    cases r with
    | ok p => exact fun v H' pv => this v H' (fin pv)
    | exn c x => exact this
    | bad => exact this
  cases k with
  | true =>
    rw [if_pos rfl]
    rw [if_pos rfl] at h1
    exact (iha G ha l1 w1).1 Q (fin2 h1)
  | false =>
    rw [if_neg Bool.false_ne_true]
    rw [if_neg Bool.false_ne_true] at h1
    exact (ihb G hb l1 w1).1 Q (fin2 h1)
end
end Q

namespace Q
open PySem L2 PySem.Spec
def Es.len : Es → Nat
  | .nil => 0
  | .cons _ es => es.len + 1
theorem dens_len {Z : EnvQ} : ∀ {es : Es} {L L1 : Lcs} {ds : List D}, dens Z es L = .ok (ds, L1) → ds.length = es.len
  | .nil, L, L1, ds, h => by rw [dens_nil] at h; cases h; rfl
  | .cons e es, L, L1, ds, h => by
    rw [dens_cons] at h
    cases h1 : den Z e L with
    | ok p =>
      rw [h1] at h
      simp only [Res.bind] at h
      cases h2 : dens Z es p.2 with
      | ok q => rw [h2] at h; cases h; simp [Es.len, dens_len h2]
      | exn c x => rw [h2] at h; cases h
      | bad => rw [h2] at h; cases h
    | exn c x => rw [h1] at h; cases h
    | bad => rw [h1] at h; cases h
theorem chkEs_len {Γ : Gam} : ∀ {es : Es} {xs : List Expr}, chkEs Γ es xs = true → es.len = xs.length
  | .nil, [], _ => rfl
  | .cons e es, x :: xs, h => by simp only [chkEs, Bool.and_eq_true] at h; simp [Es.len, chkEs_len h.2]
  | .nil, _ :: _, h => by simp [chkEs] at h
  | .cons _ _, [], h => by simp [chkEs] at h
section
variable {X : Cx} {Z : EnvQ} {Γ : Gam} {EX : XK} {σ : L2.St} {H : Hp} {F : Addr → Prop} {L : Lcs} {ws : List (List Addr)} {e : Expr}

theorem PostVs.comp {K : PySem.W.Frag} {H1 H' : Hp} {F1 : Addr → Prop} {W W1 : List Addr} {ds : List D} {L' : Lcs} {vs : List V} (x : Ext H F W H1 F1 W1) (p : PostVs K H1 F1 W1 σ ds L' vs H') : PostVs K H F W σ ds L' vs H' := by
  obtain ⟨F', W', ws', r, l, w, y⟩ := p
  exact ⟨F', W', ws', r, l, w, x.trans y⟩
theorem len1000 {n : Nat} (h : n ≤ 1000) : n ≤ sizeLine := Nat.le_trans h (by rw [sizeLine_eq]; decide)
theorem notin_of {p : Addr} {W1 : List Addr} (hp : H p = none) (m : ∀ a ∈ W1, IsMut H a) : p ∉ W1 := fun z => (m p z).some hp

/-- a new list of our own -/
theorem new_lst {K : PySem.W.Frag} {ds : List D} {vs : List V} {W1 : List Addr} {p : Addr} (r : Reps K H F ds vs W1) (l : LReps K H F L σ ws) (w : Wf H F (W1 ++ ws.flatten)) (hp : H p = none) :
    Reps K (upd H p (.lst vs)) F [.lst true ds] [.ref p] (p :: W1) ∧ LReps K (upd H p (.lst vs)) F L σ ws ∧ Wf (upd H p (.lst vs)) F ((p :: W1) ++ ws.flatten) ∧ Ext H F (W1 ++ ws.flatten) (upd H p (.lst vs)) F ((p :: W1) ++ ws.flatten) := by
  have k : KA H (upd H p (.lst vs)) := KA.new hp
  have n1 : p ∉ W1 ++ ws.flatten := fun z => (List.mem_append.mp z).elim (fun z => (r.muts p z).some hp) fun z => (l.muts p z).some hp
  refine ⟨?_, k.lreps l, ⟨List.nodup_cons.mpr ⟨n1, w.nd⟩, fun a m => ?_, fun a f => (k.wf w).tr a f⟩, ⟨fun a o h _ => k a o h, fun a m => ?_, fun a f => f, fun a f => .inl f, k.ext (F := F) (W := []) |>.live⟩⟩
  · have := Reps.own (F := F) (W2 := []) (upd_same (H := H) (a := p) (o := .lst vs)) (k.reps r) .nil
    simpa using this
  · rcases List.mem_cons.mp m with rfl | m
    · exact fun f => w.tr _ f hp
    · exact w.dj a m
  · rcases List.mem_cons.mp m with rfl | m
    · exact .inr hp
    · exact .inl m
/-- a new tuple -/
theorem new_tup {K : PySem.W.Frag} {ds : List D} {vs : List V} {W1 : List Addr} {p : Addr} {ob : Obj} (ho : ob.dict = none) (r : Reps K H F ds vs W1) (l : LReps K H F L σ ws) (w : Wf H F (W1 ++ ws.flatten)) (hp : H p = none) :
    Reps K (upd H p (.frz ob (.tup vs))) F [.tup ds] [.ref p] W1 ∧ LReps K (upd H p (.frz ob (.tup vs))) F L σ ws ∧ Wf (upd H p (.frz ob (.tup vs))) F (W1 ++ ws.flatten) ∧ Ext H F (W1 ++ ws.flatten) (upd H p (.frz ob (.tup vs))) F (W1 ++ ws.flatten) := by
  have k : KA H (upd H p (.frz ob (.tup vs))) := KA.new hp
  refine ⟨?_, k.lreps l, k.wf w, k.ext⟩
  have := Reps.tup (K := K) (F := F) (W2 := []) ⟨.inl (.inr ⟨ob, upd_same (H := H) (a := p) (o := .frz ob (.tup vs))⟩), .inl ⟨ob, _, upd_same (H := H) (a := p) (o := .frz ob (.tup vs)), ho⟩⟩ (k.reps r) .nil
  simpa using this

theorem tup_E (G : Good X Z Γ EX) {es : Es} (ih : SEs es) (h : chkE Γ (.tup es) e = true) (l : LReps X.K H F L σ ws) (w : Wf H F ws.flatten) : GoalE X EX e σ H F ws.flatten (den Z (.tup es) L) := by
  simp only [chkE] at h
  split at h <;> try (exact absurd h Bool.false_ne_true)
  rename_i xs k pos
  simp only [Bool.and_eq_true, decide_eq_true_eq] at h
  intro Q q
  rw [den_tup] at q
  refine toW (pe_tupD paW) ((((ih G h.1.1 h.2 l w).1.use q fun ds L1 vs H1 he h1 pv => ?_)))
  obtain ⟨F1, W1, ws1, r1, l1, w1, x1⟩ := pv
  have h1 : ∀ v H', PostVs X.K H F ws.flatten σ [.tup ds] L1 [v] H' → Q v H' := h1
  refine ⟨?_, fun p ob hp ho => ?_⟩
  · rw [← r1.length, dens_len he, chkEs_len h.2]; exact len1000 h.1.2
  · obtain ⟨a, b, c, d⟩ := new_tup ho r1 l1 w1 hp
    exact h1 _ _ ⟨F1, W1, ws1, a, b, c, x1.trans d⟩
theorem lst_E (G : Good X Z Γ EX) {es : Es} (ih : SEs es) (h : chkE Γ (.lst es) e = true) (l : LReps X.K H F L σ ws) (w : Wf H F ws.flatten) : GoalE X EX e σ H F ws.flatten (den Z (.lst es) L) := by
  simp only [chkE] at h
  split at h <;> try (exact absurd h Bool.false_ne_true)
  rename_i xs pos
  simp only [Bool.and_eq_true, decide_eq_true_eq] at h
  intro Q q
  rw [den_lst] at q
  refine toW (pe_lst paW) ((((ih G h.1.1 h.2 l w).1.use q fun ds L1 vs H1 he h1 pv => ?_)))
  obtain ⟨F1, W1, ws1, r1, l1, w1, x1⟩ := pv
  have h1 : ∀ v H', PostVs X.K H F ws.flatten σ [.lst true ds] L1 [v] H' → Q v H' := h1
  refine ⟨?_, fun p hp => ?_⟩
  · rw [← r1.length, dens_len he, chkEs_len h.2]; exact len1000 h.1.2
  · obtain ⟨a, b, c, d⟩ := new_lst r1 l1 w1 hp
    exact h1 _ _ ⟨F1, p :: W1, ws1, a, b, c, x1.trans d⟩

/-! ### lists of expressions -/
theorem es_nil : SEs .nil := by
  intro X Z Γ EX G es hp h L σ ws H F l w
  cases es with
  | cons _ _ => simp [chkEs] at h
  | nil =>
    refine ⟨fun Q q => ?_, fun ms Q q => ?_⟩
    · rw [dens_nil] at q
      have q : ∀ vs H', PostVs X.K H F ws.flatten σ [] L vs H' → Q vs H' := q
      exact toAW pa_nil (q [] H ⟨F, [], ws, .nil, l, by simpa using w, by simpa using Ext.refl⟩)
    · rw [args_nil] at q
      have q : ∀ vs H', PostA X.K H F ws.flatten σ ms [] L vs H' → Q vs H' := q
      exact toAW pa_nil (q [] H ⟨F, [], ws, .nil, l, by simpa using w, by simpa using Ext.refl⟩)
theorem args_go (G : Good X Z Γ EX) {c : E} {cs : Es} {x : Expr} {ms : List Bool} (hc : GoalE X EX x σ H F ws.flatten (den Z c L)) (hx0 : chkE Γ c x = true) (l : LReps X.K H F L σ ws) (w : Wf H F ws.flatten) {Q : List V → Hp → Prop}
    (q : After X.K X.mg EX H F ws.flatten (args Z ms (.cons c cs) L) (fun as L' => ∀ vs H', PostA X.K H F ws.flatten σ ms as L' vs H' → Q vs H')) {Rest : TA}
    (hrest : ∀ {L1 : Lcs} {ws1 : List (List Addr)} {H1 : Hp} {F1 : Addr → Prop}, LReps X.K H1 F1 L1 σ ws1 → Wf H1 F1 ws1.flatten → ∀ Q' : List V → Hp → Prop, After X.K X.mg EX H1 F1 ws1.flatten (args Z ms.tail cs L1) (fun as L' => ∀ vs H', PostA X.K H1 F1 ws1.flatten σ ms.tail as L' vs H' → Q' vs H') → Rest σ H1 Q') :
    tW X x σ H fun v H1 => Rest σ H1 fun vs H2 => Q (v :: vs) H2 := by
  rw [args_cons] at q
  -- the first argument: a name lent, or a value of its own
  have key : ∀ (R : V → Hp → Prop) {β : Type} {f : Arg × Lcs → Res (β × Lcs)} {post : β → Lcs → Prop}, After X.K X.mg EX H F ws.flatten ((argW (ms.headD false) c (fun L => den Z c L) L).bind f) post →
      (∀ (a : Arg) L1 v H1 F1 W1 ws1, After X.K X.mg EX H F ws.flatten (f (a, L1)) post → (∀ {H2 F2 as vs W2}, AReps X.K H2 F2 σ ms.tail as vs W2 → (∀ d, a = .val d → Reps X.K H2 F2 [d] [v] W1) → AReps X.K H2 F2 σ ms (a :: as) (v :: vs) (W1 ++ W2)) →
        (∀ d, a = .val d → Reps X.K H1 F1 [d] [v] W1) → (∀ a ∈ W1, IsMut H1 a) → (W1 = [] ∨ ∃ d, a = .val d) → LReps X.K H1 F1 L1 σ ws1 → Wf H1 F1 (W1 ++ ws1.flatten) → Ext H F ws.flatten H1 F1 (W1 ++ ws1.flatten) → R v H1) → tW X x σ H R := by
    intro R β f post hq hk
    cases hm : ms.headD false with
    | true =>
      rw [hm] at hq
      cases c <;> try (exact hq.elim)
      rename_i p
      cases p <;> try (exact hq.elim)
      rename_i i
      unfold argW at hq
      cases hL : L[i]? with
      | none => simp only [hL] at hq; exact hq.elim
      | some o =>
        cases o with
        | none => simp only [hL] at hq; exact hq.elim
        | some d =>
          simp only [hL] at hq
          have hx := hx0
          simp only [chkE, chkP] at hx
          split at hx <;> try (exact absurd hx Bool.false_ne_true)
          obtain ⟨v, e1, r, hi⟩ := l.get hL
          refine toW (G.var hx) ⟨v, e1, hk (.io i) L v H F [] ws hq (fun {H2 F2 as vs W2} ra _ => .io hm e1 ra) (fun d z => nomatch z) (fun a m => nomatch m) (.inl rfl) l (by simpa using w) (by simpa using Ext.refl)⟩
    | false =>
      rw [hm] at hq
      by_cases hv : ∃ i, c = .p (.var i)
      · obtain ⟨i, rfl⟩ := hv
        unfold argW at hq
        cases hL : L[i]? with
        | none => simp only [hL] at hq; exact hq.elim
        | some o =>
          cases o with
          | none => simp only [hL] at hq; exact hq.elim
          | some d =>
            simp only [hL] at hq
            have hx := hx0
            simp only [chkE, chkP] at hx
            split at hx <;> try (exact absurd hx Bool.false_ne_true)
            obtain ⟨v, e1, r, hi⟩ := l.get hL
            refine toW (G.var hx) ⟨v, e1, hk (.bor i) L v H F [] ws hq (fun {H2 F2 as vs W2} ra _ => .bor hm e1 ra) (fun d z => nomatch z) (fun a m => nomatch m) (.inl rfl) l (by simpa using w) (by simpa using Ext.refl)⟩
      · have e1 : argW false c (fun L => den Z c L) L = (den Z c L).bind fun r => .ok (Arg.val r.1, r.2) := by
          unfold argW
          cases c <;> first | rfl | skip
          rename_i p
          cases p <;> first | rfl | exact absurd ⟨_, rfl⟩ hv
        rw [e1] at hq
        have hq' : After X.K X.mg EX H F ws.flatten ((den Z c L).bind fun r => f (Arg.val r.1, r.2)) post := by
          revert hq
          generalize den Z c L = r
          intro hq
          cases r <;> exact hq
        refine hc.use hq' fun d L1 v H1 h1 pv => ?_
        obtain ⟨F1, W1, ws1, r1, l1, w1, x1⟩ := pv
        exact hk (.val d) L1 v H1 F1 W1 ws1 h1 (fun {H2 F2 as vs W2} ra rd => .val hm (rd d rfl) ra) (fun d' z => by cases z; exact r1) r1.muts (.inr ⟨d, rfl⟩) l1 w1 x1
  refine key _ q fun a L1 v H1 F1 W1 ws1 h1 mk rd mu wv l1 w1 x1 => ?_
  have h1' := h1.step x1 (W2 := ws1.flatten) fun a m => List.mem_append_right _ m
  refine hrest l1 w1.right _ ?_
  revert h1'
  generalize args Z ms.tail cs L1 = r
  intro h1'
  cases r with
  | exn c x => exact h1'
  | bad => exact h1'
  | ok p =>
    obtain ⟨as, L2⟩ := p
    intro vs H2 pa
    obtain ⟨F2, W2, ws2, r2, l2, w2, x2⟩ := pa
    have h1' : ∀ vs H', PostA X.K H F ws.flatten σ ms (a :: as) L2 vs H' → Q vs H' := h1'
    rcases wv with rfl | ⟨d, rfl⟩
    · have rd2 : ∀ d, a = .val d → Reps X.K H2 F2 [d] [v] [] := fun d z =>
        (rd d z).frame (B := ws1.flatten) x2.keep l1.muts (fun a m => nomatch m) (fun a f z => w1.dj a (by simpa using z) f) x2.mono
      have mk2 := mk r2 rd2
      rw [List.nil_append] at mk2
      exact h1' _ _ ⟨F2, W2, ws2, mk2, l2, w2, x1.trans (by simpa using x2)⟩
    · obtain ⟨r1', w12, x12⟩ := aside (rd d rfl) l1.muts w1 x2 w2
      exact h1' _ _ ⟨F2, W1 ++ W2, ws2, mk r2 (fun d' z => by cases z; exact r1'), l2, by rw [List.append_assoc]; exact w12, by rw [List.append_assoc]; exact x1.trans x12⟩
theorem es_cons {c : E} {cs : Es} (ih : SE c) (ihs : SEs cs) : SEs (.cons c cs) := by
  intro X Z Γ EX G es hp h L σ ws H F l w
  cases es with
  | nil => simp [chkEs] at h
  | cons x xs =>
    simp only [chkEs, Bool.and_eq_true] at h
    simp only [plainOf, Bool.and_eq_true] at hp
    have hc := (ih G h.1 l w).1
    refine ⟨fun Q q => ?_, fun ms Q q => ?_⟩
    · rw [dens_cons] at q
      refine toAW (pa_cons peW paW (starEach_of hp.1)) (hc.use q fun d L1 v H1 h1 pv => ?_)
      obtain ⟨F1, W1, ws1, r1, l1, w1, x1⟩ := pv
      refine (ihs G hp.2 h.2 l1 w1.right).1.use (h1.step x1 fun a m => List.mem_append_right _ m) fun ds L2 vs H2 he h2 pv2 => ?_
      obtain ⟨F2, W2, ws2, r2, l2, w2, x2⟩ := pv2
      have h2 : ∀ vs H', PostVs X.K H F ws.flatten σ (d :: ds) L2 vs H' → Q vs H' := h2
      obtain ⟨r1', w12, x12⟩ := aside r1 l1.muts w1 x2 w2
      exact h2 _ _ ⟨F2, W1 ++ W2, ws2, Reps.cons_iff.mpr ⟨W1, W2, rfl, r1', r2⟩, l2, by rw [List.append_assoc]; exact w12, by rw [List.append_assoc]; exact x1.trans x12⟩
    · exact toAW (pa_cons peW paW (starEach_of hp.1)) (args_go G hc h.1 l w q (Rest := taW X xs) fun l1 w1 Q' q' => (ihs G hp.2 h.2 l1 w1).2 ms.tail Q' q')
theorem ks_nil : SKs .nil := by
  intro X Z Γ EX G ks h L σ ws H F l w Q q
  cases ks with
  | cons _ _ => simp [chkEs] at h
  | nil =>
    rw [args_nil] at q
    have q : ∀ vs H', PostA X.K H F ws.flatten σ [] [] L vs H' → Q vs H' := q
    exact fun pos pins s I => pk_nil.run pos pins s σ H Q I (q [] H ⟨F, [], ws, .nil, l, by simpa using w, by simpa using Ext.refl⟩)
theorem ks_cons {c : E} {cs : Es} (ih : SE c) (ihs : SKs cs) : SKs (.cons c cs) := by
  intro X Z Γ EX G ks h L σ ws H F l w Q q
  cases ks with
  | nil => simp [chkEs] at h
  | cons k ks =>
    obtain ⟨nm, x, kpos⟩ := k
    simp only [List.map_cons, chkEs, Bool.and_eq_true] at h
    have hc := (ih G h.1 l w).1
    have := args_go (ms := []) G hc h.1 l w q (Rest := tkW X ks) fun l1 w1 Q' q' => ihs G h.2 l1 w1 Q' q'
    exact fun pos pins s I => (pk_cons peW pkW).run pos pins s σ H Q I this
end
end Q

namespace Q
open PySem L2 PySem.Spec
section
variable {X : Cx} {Z : EnvQ} {Γ : Gam} {EX : XK} {σ : L2.St} {H : Hp} {F : Addr → Prop} {L : Lcs} {ws : List (List Addr)} {e : Expr}

/-! ### calls by names -/
def tCallN0 (m : Nat) (sp : Sp) (gV : List V → List V → List V) (E : XK) (tk : TA) : TE := fun σ H Q => tk σ H fun zs H2 => zs.length = m ∧ sp (gV [] zs) H2 Q E
theorem pe_callK0 {CX : CXT} {k : Nat} {f : Addr} {fd : FuncData} {ps ks : List Str} {sp : Sp} {E : XK} {x : Str} {p pos : Pos} {kws : List PySem.Keyword} {tk : TA} {g : List Value → List Value → List Value} {gV : List V → List V → List V}
    (F : FnOk X.prog X.w X.K X.mg X.base CX k f fd ps sp) (hr : Room k X.A) (hg : Gl X x) (hm : X.mg x = some (.ref f)) (hk : PySem.W.keepIn X.K (.ref f) = true) (hb : KBn X.K fd ps 0 ks g gV) (hx : Passes CX X E)
    (hkw : PK X kws tk) (hall : (backToKw pos (keywordEach kws X.env)).all (·.1.isSome) = true) (hks : (backToKw pos (keywordEach kws X.env)).filterMap (·.1) = ks)
    (hdb : (x == ("__debug__" : Str)) = false) (hpl : ((backTo pos (starEach [] X.env)).any (·.1) || (backToKw pos (keywordEach kws X.env)).any (·.1.isNone)) = false) :
    PE X (.Call (.Name x p) [] kws pos) (tCallN0 ks.length sp gV E tk) := by
  refine ⟨fun pins s σ H Q I h => ?_⟩
  refine wpAny_Call_Name_kw (ld_glob I hg hm ?_ hdb)
  refine PySem.W.callWith_KW0 (h₀ := X.base) I.ok.mod.kin hk hall ?_ hpl
  refine thn (hkw.run pos pins s σ H _ I h) fun ws s2 ⟨zs, H2, I2, rz, l2, q2⟩ => ⟨I2.kIn, ?_⟩
  rw [hks]
  exact run_fnN (us := []) F hr hb hx I2 .nil rz rfl l2 q2
theorem kw_each {env : PySem.Env} {pos : Pos} : ∀ {kws : List PySem.Keyword} {ks : List Str}, kws.map (·.arg) = ks.map some → (backToKw pos (keywordEach kws env)).map (·.1) = ks.map some
  | [], [], _ => rfl
  | k :: kws, n :: ks, h => by
    simp only [List.map_cons, List.cons.injEq] at h
    have ih := kw_each (env := env) (pos := pos) h.2
    obtain ⟨nm, e, kpos⟩ := k
    have hn : nm = some n := h.1
    subst hn
    show some n :: (backToKw pos (keywordEach kws env)).map (·.1) = _
    rw [ih]; rfl
  | [], _ :: _, h => by simp at h
  | _ :: _, [], h => by simp at h
theorem kw_all {env : PySem.Env} {pos : Pos} {kws : List PySem.Keyword} {ks : List Str} (h : kws.map (·.arg) = ks.map some) : (backToKw pos (keywordEach kws env)).all (·.1.isSome) = true := by
  have := kw_each (env := env) (pos := pos) h
  rw [List.all_eq_true]
  intro y hy
  have hm : y.1 ∈ (backToKw pos (keywordEach kws env)).map (·.1) := List.mem_map_of_mem hy
  rw [this] at hm
  obtain ⟨z, _, e⟩ := List.mem_map.mp hm
  rw [← e]; rfl
theorem kw_names {env : PySem.Env} {pos : Pos} {kws : List PySem.Keyword} {ks : List Str} (h : kws.map (·.arg) = ks.map some) : (backToKw pos (keywordEach kws env)).filterMap (·.1) = ks := by
  have := kw_each (env := env) (pos := pos) h
  have e : (backToKw pos (keywordEach kws env)).filterMap (·.1) = ((backToKw pos (keywordEach kws env)).map (·.1)).filterMap id := by rw [List.filterMap_map]; rfl
  rw [e, this]
  simp
theorem kw_plain {env : PySem.Env} {pos : Pos} {kws : List PySem.Keyword} {ks : List Str} (h : kws.map (·.arg) = ks.map some) : ((backTo pos (starEach [] env)).any (·.1) || (backToKw pos (keywordEach kws env)).any (·.1.isNone)) = false := by
  have := kw_all (env := env) (pos := pos) h
  show (false || _) = false
  rw [Bool.false_or, List.any_eq_false]
  intro y hy z
  have := List.all_eq_true.mp this y hy
  cases hv : y.1 <;> simp [hv] at this z

/-! ### calls -/
theorem fnOk_out {f : Str} {e : Expr} (h : fnOk Γ f e = true) : ∃ p, e = .Name f p ∧ glOk Γ f = true ∧ f ∈ Γ.fs := by
  cases e <;> simp only [fnOk, Bool.and_eq_true, decide_eq_true_eq, Bool.false_eq_true] at h
  obtain ⟨⟨rfl, h2⟩, h3⟩ := h
  exact ⟨_, rfl, h2, h3⟩
theorem AReps.len {K : PySem.W.Frag} {ms : List Bool} {as : List Arg} {vs : List V} {W : List Addr} (r : AReps K H F σ ms as vs W) : as.length = vs.length := by
  induction r <;> simp_all
theorem Vals.getL : ∀ {vs : List V} {us : List Value} {i : Nat}, Vals vs us → (vs[i]? = none ∧ us[i]? = none) ∨ ∃ v u, vs[i]? = some v ∧ us[i]? = some u ∧ RelV v u
  | _, _, _, .nil => .inl ⟨rfl, rfl⟩
  | _, _, 0, .cons r _ => .inr ⟨_, _, rfl, rfl, r⟩
  | _, _, i + 1, .cons _ t => by simpa using Vals.getL (i := i) t
theorem Vals.perm {vs : List V} {us : List Value} (h : Vals vs us) : ∀ idx : List Nat, Vals (permL idx vs) (permL idx us)
  | [] => .nil
  | i :: idx => by
    unfold permL
    rcases Vals.getL (i := i) h with ⟨e1, e2⟩ | ⟨v, u, e1, e2, r⟩
    · rw [List.filterMap_cons_none e1, List.filterMap_cons_none e2]; exact Vals.perm h idx
    · rw [List.filterMap_cons_some e1, List.filterMap_cons_some e2]; exact .cons r (Vals.perm h idx)
theorem Reps.permN {K : PySem.W.Frag} {ds : List D} {vs : List V} (r : Reps K H F ds vs []) : ∀ idx : List Nat, Reps K H F (permL idx ds) (permL idx vs) []
  | [] => .nil
  | i :: idx => by
    unfold permL
    have hl := r.length
    cases e1 : ds[i]? with
    | none =>
      have e2 : vs[i]? = none := by rw [List.getElem?_eq_none_iff] at e1 ⊢; omega
      rw [List.filterMap_cons_none e1, List.filterMap_cons_none e2]; exact Reps.permN r idx
    | some d =>
      obtain ⟨v, W1, e2, r1, sb⟩ := r.get e1
      have : W1 = [] := List.sublist_nil.mp sb
      subst this
      rw [List.filterMap_cons_some e1, List.filterMap_cons_some e2]
      exact Reps.cons_iff.mpr ⟨[], [], rfl, r1, Reps.permN r idx⟩
theorem permL_len {α : Type} {xs : List α} : ∀ {idx : List Nat}, (∀ i ∈ idx, i < xs.length) → (permL idx xs).length = idx.length
  | [], _ => rfl
  | i :: idx, h => by
    have e : xs[i]? = some (xs[i]'(h i List.mem_cons_self)) := by simp [h i List.mem_cons_self]
    unfold permL
    rw [List.filterMap_cons_some e, List.length_cons, List.length_cons]
    exact congrArg Nat.succ (permL_len fun j m => h j (List.mem_cons_of_mem _ m))
theorem call_E (G : Good X Z Γ EX) {f : Str} {kw : List Str} {es : Es} (ih : SEs es) (ihk : SKs es) (h : chkE Γ (.call f kw es) e = true) (l : LReps X.K H F L σ ws) (w : Wf H F ws.flatten) : GoalE X EX e σ H F ws.flatten (den Z (.call f kw es) L) := by
  simp only [chkE] at h
  split at h <;> try (exact absurd h Bool.false_ne_true)
  rename_i x xs ks pos
  simp only [Bool.and_eq_true] at h
  obtain ⟨hf, h⟩ := h
  obtain ⟨p, rfl, hg, hm⟩ := fnOk_out hf
  obtain ⟨g1, g2, g3⟩ := G.gl hg
  obtain ⟨⟨a, fd, k, m1, m2, m3, m4, m5, m6⟩, pass, _⟩ := G.ca f hm
  cases kw with
  | nil =>
    simp only [Bool.and_eq_true] at h
    obtain ⟨⟨⟨hks, hpl⟩, hne⟩, hes⟩ := h
    have hk : ks = [] := by simpa using hks
    subst hk
    cases xs with
    | nil => simp at hne
    | cons y ys =>
      simp only [plainOf, Bool.and_eq_true] at hpl
      intro Q q
      rw [den_call] at q
      refine toW (pe_call (dvs := []) m3 m4 g1 m1 m2 m5 .nil pass paW g2 (starEach_of hpl.1) (plain_any hpl.2)) ?_
      show taW X (y :: ys) σ H fun vs H1 => SpF X.K X.mg Z f (vs ++ []) H1 Q EX
      have ga := (ih G (es := y :: ys) (by simp [plainOf, hpl.1, hpl.2]) hes l w).2 (Z.md f)
      refine ga _ ?_
      revert q
      generalize args Z (Z.md f) es L = r
      intro q
      cases r with
      | exn c x => exact q
      | bad => exact q
      | ok p =>
        obtain ⟨as, L1⟩ := p
        intro vs H1 pa
        rw [List.append_nil]
        obtain ⟨F1, W1, ws1, r1, l1, w1, x1⟩ := pa
        have q' : After X.K X.mg EX H F ws.flatten (if as.length = (Z.ar f).length then callRun Z f as L1 else .bad) (fun d L' => ∀ v H', PostVs X.K H F ws.flatten σ [d] L' [v] H' → Q v H') := q
        split at q'
        · rename_i hl
          refine call_sp r1 l1 w1 (by rw [← r1.len]; exact hl) ?_
          have q2 := q'.step x1 (W2 := W1 ++ ws1.flatten) fun a m => m
          revert q2
          generalize callRun Z f as L1 = r2
          intro q2
          cases r2 with
          | exn c x => exact q2
          | bad => exact q2
          | ok p2 => exact fun v H' pv => q2 v H' (pv.comp x1)
        · exact q'.elim
  | cons k0 kr =>
    simp only [Bool.and_eq_true, decide_eq_true_eq] at h
    obtain ⟨⟨⟨hxs, hnm⟩, hin⟩, hes⟩ := h
    have hx : xs = [] := by simpa using hxs
    subst hx
    intro Q q
    rw [den_callK] at q
    split at q <;> try (exact q.elim)
    rename_i hmd
    refine toW (pe_callK0 m3 m4 g1 m1 m2 (m6 _ hin) pass pkW (kw_all hnm) (kw_names hnm) g2 (kw_plain hnm)) ?_
    refine ihk G hes l w _ ?_
    revert q
    generalize args Z [] es L = r
    intro q
    cases r with
    | exn c x => exact q
    | bad => exact q
    | ok p =>
      obtain ⟨as, L1⟩ := p
      intro vs H1 pa
      obtain ⟨F1, W1, ws1, r1, l1, w1, x1⟩ := pa
      have q' : After X.K X.mg EX H F ws.flatten (if as.length = (Z.ar f).length ∧ (k0 :: kr).length = as.length ∧ ((Z.ar f).all fun p => decide (p ∈ k0 :: kr)) = true then callRun (Z.kw (k0 :: kr)) f as L1 else .bad) (fun d L' => ∀ v H', PostVs X.K H F ws.flatten σ [d] L' [v] H' → Q v H') := q
      split at q'
      · rename_i hl
        refine ⟨?_, ?_⟩
        · rw [← r1.len, hl.2.1]
        · have sp : SpF X.K X.mg (Z.kw (k0 :: kr)) f vs H1 Q EX := by
            refine call_sp r1 l1 w1 (by rw [← r1.len]; exact hl.1) ?_
            have q2 := q'.step x1 (W2 := W1 ++ ws1.flatten) fun a m => m
            revert q2
            generalize callRun (Z.kw (k0 :: kr)) f as L1 = r2
            intro q2
            cases r2 with
            | exn c x => exact q2
            | bad => exact q2
            | ok p2 => exact fun v H' pv => q2 v H' (pv.comp x1)
          obtain ⟨ds, Fs, Ws, e1, e2, e3, e4, e5⟩ := sp
          have hno : D.noOwns ds = true := by
            have : ioNone [] ds = true := e4
            cases ds <;> simpa [ioNone] using this
          have := e2.noOwn hno
          subst this
          refine ⟨permL (idxK (k0 :: kr) (Z.ar f)) ds, Fs, [], ?_, by simpa using e2.permN _, e3, ?_, ?_⟩
          · rw [permL_len]
            · simp [idxK]
            · intro i hi
              obtain ⟨p, hp, rfl⟩ := List.mem_map.mp hi
              have hk := List.all_eq_true.mp hl.2.2 p hp
              rw [List.nil_append, ← r1.len, ← hl.2.1]
              exact List.idxOf_lt_length_iff.mpr (by simpa using hk)
          · rw [hmd]
            show ioNone [] _ = true
            have : D.noOwns (permL (idxK (k0 :: kr) (Z.ar f)) ds) = true := by
              rw [noOwns_eq, List.all_eq_true]
              intro y hy
              obtain ⟨i, _, hi⟩ := List.mem_filterMap.mp hy
              rw [noOwns_eq] at hno
              exact List.all_eq_true.mp hno y (List.mem_of_getElem? hi)
            generalize permL (idxK (k0 :: kr) (Z.ar f)) ds = z at this
            cases z <;> simpa [ioNone] using this
          · have e5' : match Z.call f (permL (idxK (k0 :: kr) (Z.ar f)) ds) with
              | .ok (d, os) => ∀ v H' F' W1 W2, Reps X.K H' F' [d] [v] W1 → OReps X.K H' F' os (ioPick [] vs) W2 → Wf H' F' (W1 ++ W2) → Ext H1 Fs [] H' F' (W1 ++ W2) → Q v H'
              | .exn c x => ∀ cls d H' F', ExOk X.K X.mg H' F' c x cls d → Ext H1 Fs [] H' F' [] → EX cls d H'
              | .bad => False := e5
            rw [hmd]
            generalize Z.call f (permL (idxK (k0 :: kr) (Z.ar f)) ds) = rr at e5'
            cases rr with
            | exn c x => exact e5'
            | bad => exact e5'
            | ok pp =>
              obtain ⟨d, os⟩ := pp
              have pk : ∀ {α : Type} (xs : List α), ioPick [] xs = [] := fun xs => by cases xs <;> rfl
              intro v H' F' W1 W2 rd ro wf x
              rw [pk] at ro
              exact e5' v H' F' W1 W2 rd (by rw [pk]; exact ro) wf x
      · exact q'.elim

/-! ### through a list or tuple at once -/
def PostS (K : PySem.W.Frag) (H : Hp) (F : Addr → Prop) (W : List Addr) (σ : L2.St) (d : D) (L' : Lcs) (v : V) (H' : Hp) : Prop :=
  ∃ (F' : Addr → Prop) (W1 W2 : List Addr) (ws' : List (List Addr)), Reps K H' F' [d] [v] W1 ∧ W2.Sublist W1 ∧ (∀ ds, d.els = some ds → ∃ a us, v = .ref a ∧ ((∃ ts, d = .tup ts) ∧ SqD K H' a us ∨ (∀ ts, d ≠ .tup ts) ∧ SqL K H' a us) ∧ Reps K H' F' ds us W2) ∧ LReps K H' F' L' σ ws' ∧ Wf H' F' (W2 ++ ws'.flatten) ∧ Ext H F W H' F' (W2 ++ ws'.flatten)
theorem Reps.els2 {K : PySem.W.Frag} {d : D} {v : V} {ds : List D} {W : List Addr} (r : Reps K H F [d] [v] W) (h : d.els = some ds) : ∃ a us W2, v = .ref a ∧ ((∃ ts, d = .tup ts) ∧ SqD K H a us ∨ (∀ ts, d ≠ .tup ts) ∧ SqL K H a us) ∧ Reps K H F ds us W2 ∧ W2.Sublist W := by
  cases d <;> simp only [D.els, Option.some.injEq, reduceCtorEq] at h
  · subst h; obtain ⟨a, us, e, s, r1⟩ := r.tupD; exact ⟨a, us, W, e, .inl ⟨⟨_, rfl⟩, s⟩, r1, List.Sublist.refl _⟩
  · subst h; obtain ⟨a, us, W1, e, s, r1, sb, _⟩ := r.lstI; exact ⟨a, us, W1, e, .inr ⟨(fun _ z => nomatch z), SqL.of s⟩, r1, sb⟩
  · subst h; obtain ⟨a, us, e, s, r1⟩ := r.frzI; exact ⟨a, us, [], e, .inr ⟨(fun _ z => nomatch z), s.sq⟩, r1, List.nil_sublist _⟩
theorem seqW_ok (G : Good X Z Γ EX) {c : E} (ih : SE c) (h : chkE Γ c e = true) (l : LReps X.K H F L σ ws) (w : Wf H F ws.flatten) {Q : VK} {β : Type} {f : D × Lcs → Res (β × Lcs)} {post : β → Lcs → Prop}
    (q : After X.K X.mg EX H F ws.flatten ((seqW Z c (fun L => den Z c L) L).bind f) post) (k : ∀ d L1 v H1, After X.K X.mg EX H F ws.flatten (f (d, L1)) post → LenOk H1 → PostS X.K H F ws.flatten σ d L1 v H1 → Q v H1) : tW X e σ H Q := by
  have own : After X.K X.mg EX H F ws.flatten ((den Z c L).bind f) post → tW X e σ H Q := fun hq => by
    refine (tW.len ((ih G h l w).1.use (R := fun v H1 => ∃ d L1, After X.K X.mg EX H F ws.flatten (f (d, L1)) post ∧ PostVs X.K H F ws.flatten σ [d] L1 [v] H1) hq fun d L1 v H1 h1 pv => ⟨d, L1, h1, pv⟩)).mono fun v H1 ⟨⟨d, L1, h1, pv⟩, lo⟩ => ?_
    refine k d L1 v H1 h1 lo ?_
    obtain ⟨F1, W1, ws1, r1, l1, w1, x1⟩ := pv
    cases he : d.els with
    | none => exact ⟨F1, W1, W1, ws1, r1, List.Sublist.refl _, (fun ds z => by rw [he] at z; cases z), l1, w1, x1⟩
    | some ds =>
      obtain ⟨a, us, W2, ev, s, r2, sb⟩ := r1.els2 he
      refine ⟨F1, W1, W2, ws1, r1, sb, fun ds' z => by rw [he] at z; cases z; exact ⟨a, us, ev, s, r2⟩, l1, w1.sub (List.Sublist.append sb (List.Sublist.refl _)), x1.sub fun a m => (List.Sublist.append sb (List.Sublist.refl _)).subset m⟩
  by_cases hp : ∃ p, c = .p p
  · obtain ⟨p, rfl⟩ := hp
    unfold seqW at q
    simp only at q
    cases e1 : pur Z.G p L with
    | none => simp only [e1] at q; exact q.elim
    | some d =>
      simp only [e1] at q
      cases e2 : d.els with
      | none => simp only [e2] at q; exact q.elim
      | some ds =>
        simp only [e2] at q
        split at q
        · rename_i hn
          refine (tW.len ((soundP G p e (by simpa [chkE] using h) l e1).1 (Q := fun v H' => PV X.K H F ws p d v H') fun v H' pv => pv)).mono fun v H' ⟨pv, lo⟩ => ?_
          obtain ⟨W1, r, m1, m2⟩ := pv.ex
          obtain ⟨a, us, W2, ev, s, r2, sb⟩ := r.els2 e2
          have e3 := r2.noOwn hn
          subst e3
          exact k d L v H' q lo ⟨F, W1, [], ws, r, List.nil_sublist _, fun ds' z => by rw [e2] at z; cases z; exact ⟨a, us, ev, s, r2⟩, pv.ka.lreps l, by simpa using pv.ka.wf w, by simpa using pv.ka.ext⟩
        · exact own q
  · have e1 : seqW Z c (fun L => den Z c L) L = den Z c L := by
      cases c <;> first | rfl | exact absurd ⟨_, rfl⟩ hp
    rw [e1] at q
    exact own q
theorem ints_of {K : PySem.W.Frag} {ds : List D} : ∀ {us : List V} {W : List Addr} {is : List Int}, Reps K H F ds us W → ints? ds = some is → us = is.map V.int := by
  induction ds with
  | nil =>
    intro us W is r h
    cases r
    simp [ints?] at h
    subst h; rfl
  | cons d ds ih =>
    intro us W is r h
    cases us with
    | nil => cases r
    | cons u us =>
      obtain ⟨W1, W2, rfl, r1, r2⟩ := Reps.cons_iff.mp r
      cases d <;> simp only [ints?, reduceCtorEq] at h
      rename_i i
      split at h <;> simp only [Option.some.injEq, reduceCtorEq] at h
      rename_i js h1
      subst h
      rw [r1.intI, ih r2 h1]
      rfl
theorem bools_of {K : PySem.W.Frag} {ds : List D} : ∀ {us : List V} {W : List Addr} {is : List Bool}, Reps K H F ds us W → bools? ds = some is → us = is.map V.bl := by
  induction ds with
  | nil =>
    intro us W is r h
    cases r
    simp [bools?] at h
    subst h; rfl
  | cons d ds ih =>
    intro us W is r h
    cases us with
    | nil => cases r
    | cons u us =>
      obtain ⟨W1, W2, rfl, r1, r2⟩ := Reps.cons_iff.mp r
      cases d <;> simp only [bools?, reduceCtorEq] at h
      rename_i i
      split at h <;> simp only [Option.some.injEq, reduceCtorEq] at h
      rename_i js h1
      subst h
      rw [r1.blI, ih r2 h1]
      rfl
theorem ins1_perm (x : Int) : ∀ ys : List Int, (ins1 x ys).Perm (x :: ys)
  | [] => List.Perm.refl _
  | y :: ys => by
    unfold ins1
    split
    · exact List.Perm.refl _
    · exact ((ins1_perm x ys).cons y).trans (List.Perm.swap x y ys)
theorem isort_perm : ∀ xs : List Int, (isort xs).Perm xs
  | [] => List.Perm.refl _
  | x :: xs => (ins1_perm x (isort xs)).trans ((isort_perm xs).cons x)
theorem ins1_le (x : Int) : ∀ {ys : List Int}, ys.Pairwise (· ≤ ·) → (ins1 x ys).Pairwise (· ≤ ·)
  | [], _ => by simp [ins1]
  | y :: ys, h => by
    obtain ⟨h1, h2⟩ := List.pairwise_cons.mp h
    unfold ins1
    split
    · rename_i hx
      refine List.pairwise_cons.mpr ⟨fun z m => ?_, h⟩
      rcases List.mem_cons.mp m with rfl | m
      · exact hx
      · exact Int.le_trans hx (h1 z m)
    · refine List.pairwise_cons.mpr ⟨fun z m => ?_, ins1_le x h2⟩
      rcases List.mem_cons.mp ((ins1_perm x ys).mem_iff.mp m) with rfl | m
      · omega
      · exact h1 z m
theorem isort_le : ∀ xs : List Int, (isort xs).Pairwise (· ≤ ·)
  | [] => List.Pairwise.nil
  | x :: xs => ins1_le x (isort_le xs)
theorem sorted_one : ∀ {xs ys : List Int}, xs.Perm ys → xs.Pairwise (· ≤ ·) → ys.Pairwise (· ≤ ·) → xs = ys
  | [], ys, p, _, _ => p.nil_eq
  | x :: xs, [], p, _, _ => by have := p.length_eq; simp at this
  | x :: xs, y :: ys, p, h1, h2 => by
    obtain ⟨a1, a2⟩ := List.pairwise_cons.mp h1
    obtain ⟨b1, b2⟩ := List.pairwise_cons.mp h2
    have e : x = y := by
      have m1 : x ∈ y :: ys := p.mem_iff.mp List.mem_cons_self
      have m2 : y ∈ x :: xs := p.mem_iff.mpr List.mem_cons_self
      rcases List.mem_cons.mp m1 with e | m1
      · exact e
      rcases List.mem_cons.mp m2 with e | m2
      · exact e.symm
      have h3 := b1 x m1
      have h4 := a1 y m2
      omega
    subst e
    rw [sorted_one (List.Perm.cons_inv p) a2 b2]
theorem repsI {K : PySem.W.Frag} : ∀ is : List Int, Reps K H F (is.map D.int) (is.map V.int) []
  | [] => .nil
  | i :: is => .int (repsI is)
theorem sqAst_ttOk {o : SqO} {x : Expr} (h : sqAst Γ o e = some x) : ttOk e = true := by
  cases o <;> (obtain ⟨f, pos, rfl, _⟩ := callB1_out h; rfl)
theorem sq_E (G : Good X Z Γ EX) {o : SqO} {a : E} (ih : SE a) (h : chkE Γ (.sq o a) e = true) (l : LReps X.K H F L σ ws) (w : Wf H F ws.flatten) : GoalE X EX e σ H F ws.flatten (den Z (.sq o a) L) := by
  simp only [chkE] at h
  split at h <;> try (exact absurd h Bool.false_ne_true)
  rename_i x he
  intro Q q
  rw [den_sq] at q
  cases o with
  | list =>
    refine ty1 (id := "list") G he call_list_of (by decide +kernel) (seqW_ok G ih h l w q fun d L1 v H1 h1 lo ps => ?_)
    obtain ⟨y, ey, h2⟩ := h1.of
    obtain ⟨F1, W1, W2, ws1, r1, sb, op, l1, w1, x1⟩ := ps
    simp only [apS] at ey
    split at ey <;> simp only [Option.some.injEq, reduceCtorEq] at ey
    rename_i ds hd
    subst ey
    obtain ⟨p, us, rfl, s, r2⟩ := op ds hd
    refine ⟨p, us, rfl, s.elim (fun z => .inr z.2.1) (fun z => .inl z.2), fun n hn => ?_⟩
    obtain ⟨a1, a2, a3, a4⟩ := new_lst r2 l1 w1 hn
    exact h2 _ _ ⟨F1, n :: W2, ws1, a1, a2, a3, x1.trans a4⟩
  | tuple =>
    refine ty1 (id := "tuple") G he call_tuple_D (by decide +kernel) (seqW_ok G ih h l w q fun d L1 v H1 h1 lo ps => ?_)
    obtain ⟨y, ey, h2⟩ := h1.of
    obtain ⟨F1, W1, W2, ws1, r1, sb, op, l1, w1, x1⟩ := ps
    simp only [apS] at ey
    split at ey <;> simp only [Option.some.injEq, reduceCtorEq] at ey
    rename_i ds hd
    subst ey
    obtain ⟨p, us, rfl, s, r2⟩ := op ds hd
    refine ⟨p, us, rfl, ?_⟩
    rcases s with ⟨⟨ts, rfl⟩, s⟩ | ⟨_, s⟩
    · refine .inr ⟨s.1, h2 _ _ ⟨F1, W2, ws1, ?_, l1, w1, x1⟩⟩
      have := Reps.tup s r2 (Reps.nil (K := X.K) (H := H1) (F := F1))
      simpa using this
    · refine .inl ⟨s, fun n ob hn ho => ?_⟩
      obtain ⟨a1, a2, a3, a4⟩ := new_tup ho r2 l1 w1 hn
      exact h2 _ _ ⟨F1, W2, ws1, a1, a2, a3, x1.trans a4⟩
  | sum =>
    refine b1 (id := "sum") G he (cr_sum G.calm) (by decide +kernel) (seqW_ok G ih h l w q fun d L1 v H1 h1 lo ps => ?_)
    obtain ⟨y, ey, h2⟩ := h1.of
    obtain ⟨F1, W1, W2, ws1, r1, sb, op, l1, w1, x1⟩ := ps
    cases d <;> simp only [apS, reduceCtorEq] at ey
    split at ey <;> simp only [Option.some.injEq, reduceCtorEq] at ey
    rename_i is hi
    subst ey
    obtain ⟨p, us, rfl, s, r2⟩ := op _ rfl
    rcases s with ⟨⟨ts, z⟩, s⟩ | ⟨_, s⟩
    · cases z
    · refine ⟨p, is, rfl, by rw [← ints_of r2 hi]; exact s, h2 _ _ ⟨F1, [], ws1, .int .nil, l1, by simpa using w1.right, x1.sub fun a m => List.mem_append_right _ (by simpa using m)⟩⟩
  | all =>
    refine b1 (id := "all") G he (cr_all G.calm) (by decide +kernel) (seqW_ok G ih h l w q fun d L1 v H1 h1 lo ps => ?_)
    obtain ⟨y, ey, h2⟩ := h1.of
    obtain ⟨F1, W1, W2, ws1, r1, sb, op, l1, w1, x1⟩ := ps
    cases d <;> simp only [apS, reduceCtorEq] at ey
    split at ey <;> simp only [Option.some.injEq, reduceCtorEq] at ey
    rename_i is hi
    subst ey
    obtain ⟨p, us, rfl, s, r2⟩ := op _ rfl
    rcases s with ⟨⟨ts, z⟩, s⟩ | ⟨_, s⟩
    · cases z
    · refine ⟨p, is, rfl, by rw [← bools_of r2 hi]; exact s, h2 _ _ ⟨F1, [], ws1, .bl .nil, l1, by simpa using w1.right, x1.sub fun a m => List.mem_append_right _ (by simpa using m)⟩⟩
  | any =>
    refine b1 (id := "any") G he (cr_any G.calm) (by decide +kernel) (seqW_ok G ih h l w q fun d L1 v H1 h1 lo ps => ?_)
    obtain ⟨y, ey, h2⟩ := h1.of
    obtain ⟨F1, W1, W2, ws1, r1, sb, op, l1, w1, x1⟩ := ps
    cases d <;> simp only [apS, reduceCtorEq] at ey
    split at ey <;> simp only [Option.some.injEq, reduceCtorEq] at ey
    rename_i is hi
    subst ey
    obtain ⟨p, us, rfl, s, r2⟩ := op _ rfl
    rcases s with ⟨⟨ts, z⟩, s⟩ | ⟨_, s⟩
    · cases z
    · refine ⟨p, is, rfl, by rw [← bools_of r2 hi]; exact s, h2 _ _ ⟨F1, [], ws1, .bl .nil, l1, by simpa using w1.right, x1.sub fun a m => List.mem_append_right _ (by simpa using m)⟩⟩
  | min =>
    refine b1 (id := "min") G he (cr_min G.calm) (by decide +kernel) (seqW_ok G ih h l w q fun d L1 v H1 h1 lo ps => ?_)
    obtain ⟨y, ey, h2⟩ := h1.of
    simp [apS] at ey
  | max =>
    refine b1 (id := "max") G he (cr_max G.calm) (by decide +kernel) (seqW_ok G ih h l w q fun d L1 v H1 h1 lo ps => ?_)
    obtain ⟨y, ey, h2⟩ := h1.of
    simp [apS] at ey
  | sorted =>
    refine b1 (id := "sorted") G he cr_srt (by decide +kernel) (seqW_ok G ih h l w q fun d L1 v H1 h1 lo ps => ?_)
    obtain ⟨y, ey, h2⟩ := h1.of
    obtain ⟨F1, W1, W2, ws1, r1, sb, op, l1, w1, x1⟩ := ps
    simp only [apS] at ey
    split at ey <;> try (simp only [reduceCtorEq] at ey; done)
    rename_i ds hd
    split at ey <;> simp only [Option.some.injEq, reduceCtorEq] at ey
    rename_i is hi
    subst ey
    obtain ⟨p, us, rfl, s, r2⟩ := op _ hd
    refine ⟨p, is, rfl, by rw [← ints_of r2 hi]; exact s.elim (fun z => .inr z.2.1) (fun z => .inl z.2), fun ns' n pm pw hn => ?_⟩
    have e : ns' = isort is := sorted_one (pm.trans (isort_perm is).symm) pw (isort_le is)
    subst e
    obtain ⟨a1, a2, a3, a4⟩ := new_lst (repsI (K := X.K) (H := H1) (F := F1) (isort is)) l1 (by simpa using w1.right) hn
    have x2 : Ext H F ws.flatten H1 F1 ws1.flatten := x1.sub fun a m => List.mem_append_right _ m
    exact h2 _ _ ⟨F1, [n], ws1, a1, a2, a3, x2.trans (by simpa using a4)⟩

theorem reps_replicate {K : PySem.W.Frag} {ds : List D} {us : List V} (r : Reps K H F ds us []) : ∀ n : Nat, Reps K H F (List.replicate n ds).flatten (List.replicate n us).flatten []
  | 0 => by simpa using Reps.nil
  | n + 1 => by
    simp only [List.replicate_succ, List.flatten_cons]
    exact r.append (reps_replicate r n)
theorem rep_E (G : Good X Z Γ EX) {a b : E} (iha : SE a) (ihb : SE b) (h : chkE Γ (.rep a b) e = true) (l : LReps X.K H F L σ ws) (w : Wf H F ws.flatten) : GoalE X EX e σ H F ws.flatten (den Z (.rep a b) L) := by
  simp only [chkE] at h
  split at h <;> try (exact absurd h Bool.false_ne_true)
  rename_i x y he
  simp only [Bool.and_eq_true] at h
  obtain ⟨pos, rfl⟩ := binAst_out he
  intro Q q
  rw [den_rep] at q
  refine toW (pe_op op_rep peW peW) ((iha G h.1 l w).1.use q fun d L1 v H1 h1 pv => ?_)
  obtain ⟨F1, W1, ws1, r1, l1, w1, x1⟩ := pv
  refine (rd_ok G h.2 l1 w1.right (ihb G h.2 l1 w1.right).1).use (h1.step x1 fun a m => List.mem_append_right _ m) fun d2 L2 u H2 h2 pr => ?_
  obtain ⟨F2, W2, ws2, r2, l2, w2, x2⟩ := pr
  obtain ⟨r1', w12, x12⟩ := aside r1 l1.muts w1 x2 w2
  obtain ⟨z, ez, h3⟩ := h2.of
  cases d <;> cases d2 <;> simp only [repRun, reduceCtorEq] at ez
  rename_i own ds i
  split at ez <;> simp only [Option.some.injEq, reduceCtorEq] at ez
  rename_i hc
  subst ez
  simp only [Bool.and_eq_true, decide_eq_true_eq] at hc
  obtain ⟨⟨⟨hn, hl⟩, hlo⟩, hhi⟩ := hc
  obtain ⟨p, us, We, rfl, s, re, sb, _⟩ := r1'.lstI
  have := re.noOwn hn
  subst this
  have e3 := re.length
  refine ⟨p, i, us, rfl, r2.intI, s, by omega, by omega, by rw [← e3, sizeLine_eq]; omega, fun n hn2 => ?_⟩
  obtain ⟨a1, a2, a3, a4⟩ := new_lst (reps_replicate re i.toNat) l2 (by simpa using w2) hn2
  exact h3 _ _ ⟨F2, [n], ws2, a1, a2, a3, ((x1.trans x12).sub fun a m => List.mem_append_right _ m).trans (by simpa using a4)⟩
theorem cat_E (G : Good X Z Γ EX) {a b : E} (iha : SE a) (ihb : SE b) (h : chkE Γ (.cat a b) e = true) (l : LReps X.K H F L σ ws) (w : Wf H F ws.flatten) : GoalE X EX e σ H F ws.flatten (den Z (.cat a b) L) := by
  simp only [chkE] at h
  split at h <;> try (exact absurd h Bool.false_ne_true)
  rename_i x y he
  simp only [Bool.and_eq_true] at h
  obtain ⟨pos, rfl⟩ := binAst_out he
  intro Q q
  rw [den_cat] at q
  refine toW (pe_op (OpR.or op_add op_cat) peW peW) ((iha G h.1 l w).1.use q fun d L1 v H1 h1 pv => ?_)
  obtain ⟨F1, W1, ws1, r1, l1, w1, x1⟩ := pv
  refine (ihb G h.2 l1 w1.right).1.use (h1.step x1 fun a m => List.mem_append_right _ m) fun d2 L2 u H2 h2 pv2 => ?_
  obtain ⟨F2, W2, ws2, r2, l2, w2, x2⟩ := pv2
  obtain ⟨r1', w12, x12⟩ := aside r1 l1.muts w1 x2 w2
  obtain ⟨z, ez, h3⟩ := h2.of
  cases d <;> cases d2 <;> simp only [catRun, reduceCtorEq, Option.some.injEq] at ez
  · subst ez
    exact .inl ⟨_, _, r1'.intI, r2.intI, h3 _ _ ⟨F2, [], ws2, .int .nil, l2, by simpa using w2.right, ((x1.trans x12).sub fun a m => by simpa using Or.inr (Or.inr m))⟩⟩
  · rename_i o1 ds o2 es
    split at ez <;> simp only [Option.some.injEq, reduceCtorEq] at ez
    rename_i hl
    subst ez
    obtain ⟨p, us, We, rfl, s, re, sb, _⟩ := r1'.lstI
    obtain ⟨p2, us2, We2, rfl, s2, re2, sb2, _⟩ := r2.lstI
    have e1 := re.length
    have e2 := re2.length
    refine .inr ⟨p, p2, us, us2, rfl, rfl, s, s2, by rw [sizeLine_eq]; omega, fun n hn => ?_⟩
    have sbs : ((We ++ We2) ++ ws2.flatten).Sublist (W1 ++ (W2 ++ ws2.flatten)) := by
      rw [List.append_assoc]
      exact List.Sublist.append sb (List.Sublist.append sb2 (List.Sublist.refl _))
    obtain ⟨a1, a2, a3, a4⟩ := new_lst (re.append re2) l2 (w12.sub sbs) hn
    exact h3 _ _ ⟨F2, n :: (We ++ We2), ws2, a1, a2, a3, ((x1.trans x12).sub fun a m => sbs.subset m).trans a4⟩

theorem flat_reps {K : PySem.W.Frag} {d : D} {v : V} {W : List Addr} (h : flatD d = true) (r : Reps K H F [d] [v] W) : ∀ H' F', Reps K H' F' [d] [v] [] := fun H' F' => by
  cases d with
  | non => rw [r.nonI]; exact .non .nil
  | bl b => rw [r.blI]; exact .bl .nil
  | int i => rw [r.intI]; exact .int .nil
  | str s => rw [r.strI]; exact .str .nil
  | _ => cases h
theorem purs_A (G : Good X Z Γ EX) : ∀ {qs : List P} {ys : List Expr} {H : Hp} {ds : List D}, plainOf ys = true → chkPs Γ qs ys = true → LReps X.K H F L σ ws → pursO Z.G qs L = some ds → ds.all flatD = true →
    ∀ {Q : List V → Hp → Prop}, (∀ vs H', KA H H' → (∀ F', Reps X.K H' F' ds vs []) → Q vs H') → taW X ys σ H Q
  | [], [], H, ds, _, _, l, e, _, Q, q => by
    cases e
    exact toAW pa_nil (q [] H (KA.refl H) fun _ => .nil)
  | [], _ :: _, _, _, _, h, _, _, _, _, _ => by simp [chkPs] at h
  | _ :: _, [], _, _, _, h, _, _, _, _, _ => by simp [chkPs] at h
  | p :: qs, y :: ys, H, ds, hp, h, l, e, hf, Q, q => by
    simp only [chkPs, Bool.and_eq_true] at h
    simp only [plainOf, Bool.and_eq_true] at hp
    unfold pursO at e
    split at e <;> simp only [Option.some.injEq, reduceCtorEq] at e
    rename_i d es e1 e2
    subst e
    rw [List.all_cons, Bool.and_eq_true] at hf
    refine toAW (pa_cons peW paW (starEach_of hp.1)) ?_
    refine (soundP G p y h.1 l e1).1 fun v H1 pv => ?_
    obtain ⟨W1, r, _⟩ := pv.ex
    refine purs_A G hp.2 h.2 (pv.ka.lreps l) e2 hf.2 fun vs H2 k2 r2 => ?_
    exact q (v :: vs) H2 (pv.ka.trans k2) fun F' => Reps.cons_iff.mpr ⟨[], [], rfl, flat_reps hf.1 r H2 F', r2 F'⟩
theorem purs_len {G : Str → Option D} : ∀ {qs : List P} {ds : List D}, pursO G qs L = some ds → ds.length = qs.length
  | [], ds, e => by cases e; rfl
  | q :: qs, ds, e => by
    unfold pursO at e
    split at e <;> simp only [Option.some.injEq, reduceCtorEq] at e
    rename_i d es e1 e2
    subst e
    simp [purs_len e2]
theorem chkPs_len : ∀ {qs : List P} {ys : List Expr}, chkPs Γ qs ys = true → qs.length = ys.length
  | [], [], _ => rfl
  | [], _ :: _, h => by simp [chkPs] at h
  | _ :: _, [], h => by simp [chkPs] at h
  | p :: qs, y :: ys, h => by simp only [chkPs, Bool.and_eq_true] at h; simp [chkPs_len h.2]
theorem catl_E (G : Good X Z Γ EX) {p : P} {qs : List P} (h : chkE Γ (.catl p qs) e = true) (l : LReps X.K H F L σ ws) (w : Wf H F ws.flatten) : GoalE X EX e σ H F ws.flatten (den Z (.catl p qs) L) := by
  simp only [chkE] at h
  split at h <;> try (exact absurd h Bool.false_ne_true)
  rename_i x ys lpos he
  simp only [Bool.and_eq_true, decide_eq_true_eq] at h
  obtain ⟨⟨⟨hp, hpl⟩, hln⟩, hqs⟩ := h
  obtain ⟨pos, rfl⟩ := binAst_out he
  intro Q q
  rw [den_catl] at q
  obtain ⟨r0, er, q⟩ : ∃ r0, catlRun Z.G p qs L = some r0 ∧ ∀ v H', PostVs X.K H F ws.flatten σ [r0.1] r0.2 [v] H' → Q v H' := by
    cases hr : catlRun Z.G p qs L with
    | none => rw [hr] at q; exact q.elim
    | some r => rw [hr] at q; exact ⟨r, rfl, q⟩
  unfold catlRun at er
  split at er
  · rename_i o xs ds e1 e2
    split at er
    · rename_i hc
      simp only [Bool.and_eq_true, decide_eq_true_eq] at hc
      obtain ⟨⟨hno, hfl⟩, hsz⟩ := hc
      cases er
      refine toW (pe_op op_cat peW (pe_lst paW)) ((soundP G p x hp l e1).1 fun v H1 pv => ?_)
      obtain ⟨W1, r, _⟩ := pv.ex
      obtain ⟨a, us, We, rfl, s, re, sb, _⟩ := r.lstI
      have hW : We = [] := re.noOwn hno
      subst hW
      refine purs_A G hpl hqs (pv.ka.lreps l) e2 hfl fun vs H2 k2 r2 => ?_
      have kk : KA H H2 := pv.ka.trans k2
      have hl2 := (r2 F).length
      have hds := purs_len e2
      have hql := chkPs_len hqs
      refine ⟨by rw [← hl2, hds, hql]; exact len1000 hln, fun n hn => ?_⟩
      have k3 : KA H2 (upd H2 n (.lst vs)) := KA.new hn
      have k4 : KA H (upd H2 n (.lst vs)) := kk.trans k3
      have e1l := re.length
      refine ⟨a, n, us, vs, rfl, rfl, k3 _ _ (k2 _ _ s), upd_same, by rw [sizeLine_eq]; omega, fun n2 hn2 => ?_⟩
      have ra : Reps X.K (upd H2 n (.lst vs)) F (xs ++ ds) (us ++ vs) ([] ++ []) := ((k2.trans k3).reps re).append (k3.reps (r2 F))
      obtain ⟨a1, a2, a3, a4⟩ := new_lst (W1 := []) (by simpa using ra) (k4.lreps l) (by simpa using k4.wf w) hn2
      exact q _ _ ⟨F, [n2], ws, a1, a2, a3, k4.ext.trans (by simpa using a4)⟩
    · cases er
  · cases er

/-! ### sources -/
theorem src_E {c : E} (ih : SE c) : SSrc (.e c) := by
  intro X Z Γ EX G tg e h L σ ws H F l w R q
  simp only [chkSrc] at h
  rw [src_e] at q
  refine toI (pi_seq peW) ?_
  have hq : After X.K X.mg EX H F ws.flatten ((den Z c L).bind fun r => (Res.of r.1.fz.els).bind fun x => .ok (x, r.2)) (fun ds L' => ∀ J H', PostI X.K tg H F ws.flatten σ ds L' J H' → R J H') := by
    revert q
    generalize den Z c L = r
    intro q
    cases r with
    | ok p => obtain ⟨d, L1⟩ := p; unfold seqF at q; simp only at q; simp only [Res.bind]; cases he : d.fz.els with
      | none => rw [he] at q; exact q
      | some ds => rw [he] at q; exact q
    | exn c x => exact q
    | bad => exact q
  refine (tW.len ((ih G h l w).1.use (R := fun v H1 => ∃ d L1, After X.K X.mg EX H F ws.flatten ((Res.of d.fz.els).bind fun x => .ok (x, L1)) (fun ds L' => ∀ J H', PostI X.K tg H F ws.flatten σ ds L' J H' → R J H') ∧ PostVs X.K H F ws.flatten σ [d] L1 [v] H1) hq fun d L1 v H1 h1 pv => ⟨d, L1, h1, pv⟩)).mono fun v H1 ⟨⟨d, L1, h1, pv⟩, lo⟩ => ?_
  obtain ⟨F1, W1, ws1, r1, l1, w1, x1⟩ := pv
  obtain ⟨ds, he, h2⟩ := h1.of
  obtain ⟨r2, l2, w2, x2⟩ := freezeT r1 l1 w1
  have r2' : Reps X.K H1 (fun a => F1 a ∨ a ∈ W1) [d.fz] [v] [] := by simpa [D.fzs] using r2
  obtain ⟨a, us, rfl, hz, r3, s⟩ := r2'.elsF he lo
  refine ⟨a, us, rfl, ?_⟩
  have kr : Kp H1 (fun a => F1 a ∨ a ∈ W1) H1 := fun a o h _ => h
  rcases s with ⟨_, s⟩ | ⟨_, s⟩
  · exact .inr ⟨s _ kr, h2 _ _ ⟨_, ws1, walk_tp r3 hz s, l2, w2, x1.trans x2⟩⟩
  · exact .inl ⟨s _ kr, h2 _ _ ⟨_, ws1, walk_lst r3 hz s, l2, w2, x1.trans x2⟩⟩
theorem rngRun_out {ds y : List D} (h : rngRun ds = some y) : (∃ j : Int, ds = [.int j] ∧ (-1000000 < j ∧ j < 1000000) ∧ y = rngD 0 j.toNat) ∨ ∃ i j : Int, ds = [.int i, .int j] ∧ (-1000000 < i ∧ i < 1000000 ∧ -1000000 < j ∧ j < 1000000) ∧ y = rngD i (j - i).toNat := by
  unfold rngRun at h
  split at h
  · rename_i j
    split at h <;> simp only [Option.some.injEq, reduceCtorEq] at h
    rename_i hj
    exact .inl ⟨j, rfl, hj, h.symm⟩
  · rename_i i j
    split at h <;> simp only [Option.some.injEq, reduceCtorEq] at h
    rename_i hj
    exact .inr ⟨i, j, rfl, hj, h.symm⟩
  · cases h
theorem src_R {es : Es} (ih : SEs es) : SSrc (.rng es) := by
  intro X Z Γ EX G tg e h L σ ws H F l w R q
  simp only [chkSrc] at h
  split at h <;> try (exact absurd h Bool.false_ne_true)
  rename_i f xs pos
  simp only [Bool.and_eq_true, Bool.or_eq_true, decide_eq_true_eq] at h
  obtain ⟨⟨⟨hf, hp⟩, hn⟩, hc⟩ := h
  obtain ⟨p, rfl, g1, g2, g3, g4⟩ := G.blt hf
  rw [src_rng] at q
  have ga := (ih G hp hc l w).1
  cases xs with
  | nil => simp at hn
  | cons x xs =>
    cases xs with
    | nil =>
      have ns : notStar x = true := by simpa [plainOf] using hp
      refine toI (pi_range1 g1 g4 paW (starEach_of ns)) (ga.use q fun ds L1 vs H1 he h1 pv => ?_)
      obtain ⟨F1, W1, ws1, r1, l1, w1, x1⟩ := pv
      obtain ⟨y, ey, h2⟩ := h1.of
      have ey : rngRun ds = some y := ey
      rcases rngRun_out ey with ⟨j, rfl, hj, rfl⟩ | ⟨i, j, rfl, _⟩
      · cases r1 with
        | int r1 =>
          cases r1
          exact ⟨j, rfl, by omega, by omega, h2 _ _ ⟨F1, ws1, walk_rng (by omega), l1, by simpa using w1, by simpa using x1⟩⟩
      · have := dens_len he
        rw [chkEs_len hc] at this
        simp at this
    | cons y xs =>
      cases xs with
      | cons _ _ => simp at hn
      | nil =>
        have ns : notStar x = true ∧ notStar y = true := by simpa [plainOf] using hp
        refine toI (pi_range2 g1 g4 paW (by rw [starEach_of ns.1, starEach_of ns.2]; rfl) (by rw [starEach_of ns.2]; rfl)) (ga.use q fun ds L1 vs H1 he h1 pv => ?_)
        obtain ⟨F1, W1, ws1, r1, l1, w1, x1⟩ := pv
        obtain ⟨z, ez, h2⟩ := h1.of
        have ez : rngRun ds = some z := ez
        rcases rngRun_out ez with ⟨j, rfl, _⟩ | ⟨i, j, rfl, hj, rfl⟩
        · have := dens_len he
          rw [chkEs_len hc] at this
          simp at this
        · cases r1 with
          | int r1 =>
            cases r1 with
            | int r1 =>
              cases r1
              exact ⟨i, j, rfl, by omega, h2 _ _ ⟨F1, ws1, walk_rng (by omega), l1, by simpa using w1, by simpa using x1⟩⟩
theorem src_Z {a b : E} (iha : SE a) (ihb : SE b) : SSrc (.zip a b) := by
  intro X Z Γ EX G tg e h L σ ws H F l w R q
  simp only [chkSrc] at h
  split at h <;> try (exact absurd h Bool.false_ne_true)
  rename_i y z elts kk tpos hcb
  simp only [Bool.and_eq_true] at h
  obtain ⟨f, pos, rfl, hf, n1, n2⟩ := callB2_out hcb
  obtain ⟨p, rfl, g1, g2, g3, g4⟩ := G.blt hf
  rw [src_zip] at q
  refine toI (RZ.pi_zipA g1 g4 (pa_cons peW (pa_cons peW pa_nil (starEach_of n2)) (starEach_of n1)) (starEach_of n1) (plain_any (es := [z]) (by simp [plainOf, n2]))) ?_
  show tW X y σ H fun v H1 => tW X z σ H1 fun u H2 => _
  refine (iha G h.1 l w).1.use q fun d L1 v H1 h1 pv => ?_
  obtain ⟨F1, W1, ws1, r1, l1, w1, x1⟩ := pv
  refine (tW.len ((ihb G h.2 l1 w1.right).1.use (R := fun u H2 => ∃ d2 L2, After X.K X.mg EX H1 F1 ws1.flatten ((Res.of (zipRun d.fz d2.fz)).bind fun x => .ok (x, L2)) (fun ds L' => ∀ J H', PostI X.K _ H F ws.flatten σ ds L' J H' → R J H') ∧ PostVs X.K H1 F1 ws1.flatten σ [d2] L2 [u] H2) (h1.step x1 fun a m => List.mem_append_right _ m) fun d2 L2 u H2 h2 pv2 => ⟨d2, L2, h2, pv2⟩)).mono fun u H2 ⟨⟨d2, L2, h2, pv2⟩, lo⟩ => ?_
  obtain ⟨F2, W2, ws2, r2, l2, w2, x2⟩ := pv2
  obtain ⟨r1', w12, x12⟩ := aside r1 l1.muts w1 x2 w2
  obtain ⟨ds, ez, h3⟩ := h2.of
  have rr : Reps X.K H2 F2 [d, d2] [v, u] (W1 ++ W2) := Reps.cons_iff.mpr ⟨W1, W2, rfl, r1', r2⟩
  obtain ⟨r3, l3, w3, x3⟩ := freezeT rr l2 (by rw [List.append_assoc]; exact w12)
  have r3' : Reps X.K H2 (fun a => F2 a ∨ a ∈ W1 ++ W2) [d.fz, d2.fz] [v, u] [] := by simpa [D.fzs] using r3
  obtain ⟨Wa, Wb, hW, ra, rb⟩ := Reps.cons_iff.mp r3'
  obtain ⟨rfl, rfl⟩ := List.append_eq_nil_iff.mp hW.symm
  have kr : Kp H2 (fun a => F2 a ∨ a ∈ W1 ++ W2) H2 := fun a o h _ => h
  have xx : Ext H F ws.flatten H2 (fun a => F2 a ∨ a ∈ W1 ++ W2) ws2.flatten := (x1.trans x12).trans (by simpa [List.append_assoc] using x3)
  cases hd : d.fz <;> cases hd2 : d2.fz <;> rw [hd, hd2] at ez <;> simp only [zipRun, reduceCtorEq, Option.some.injEq] at ez
  · subst ez
    rw [hd] at ra; rw [hd2] at rb
    obtain ⟨a, us, rfl, hz, r4, s⟩ := ra.elsF rfl lo
    obtain ⟨b, us2, rfl, hz2, r5, s2⟩ := rb.elsF rfl lo
    rcases s with ⟨_, s⟩ | ⟨n, _⟩
    · rcases s2 with ⟨_, s2⟩ | ⟨n, _⟩
      · exact ⟨a, b, us, us2, rfl, .inr ⟨s _ kr, s2 _ kr, h3 _ _ ⟨_, ws2, walk_zipT rfl r4 r5 hz s s2, l3, w3, xx⟩⟩⟩
      · exact absurd rfl (n _)
    · exact absurd rfl (n _)
  · subst ez
    rw [hd] at ra; rw [hd2] at rb
    obtain ⟨a, us, rfl, hz, r4, s⟩ := ra.elsF rfl lo
    obtain ⟨b, us2, rfl, hz2, r5, s2⟩ := rb.elsF rfl lo
    rcases s with ⟨⟨ts, z⟩, _⟩ | ⟨_, s⟩
    · cases z
    · rcases s2 with ⟨⟨ts, z⟩, _⟩ | ⟨_, s2⟩
      · cases z
      · exact ⟨a, b, us, us2, rfl, .inl ⟨s _ kr, s2 _ kr, h3 _ _ ⟨_, ws2, walk_zipL rfl r4 r5 hz s s2, l3, w3, xx⟩⟩⟩
theorem src_N {a : E} (ih : SE a) : SSrc (.enum a) := by
  intro X Z Γ EX G tg e h L σ ws H F l w R q
  simp only [chkSrc] at h
  split at h <;> try (exact absurd h Bool.false_ne_true)
  rename_i y elts kk tpos hcb
  obtain ⟨f, pos, rfl, hf, n1⟩ := callB1_out hcb
  obtain ⟨p, rfl, g1, g2, g3, g4⟩ := G.blt hf
  rw [src_enum] at q
  refine toI (pi_enumA g1 g4 (pa_cons peW pa_nil (starEach_of n1)) (starEach_of n1)) ?_
  show tW X y σ H fun v H1 => _
  refine (tW.len ((ih G h l w).1.use (R := fun v H1 => ∃ d L1, After X.K X.mg EX H F ws.flatten ((Res.of (enumRun d.fz)).bind fun x => .ok (x, L1)) (fun ds L' => ∀ J H', PostI X.K (.Tuple elts kk tpos) H F ws.flatten σ ds L' J H' → R J H') ∧ PostVs X.K H F ws.flatten σ [d] L1 [v] H1) q fun d L1 v H1 h1 pv => ⟨d, L1, h1, pv⟩)).mono fun v H1 ⟨⟨d, L1, h1, pv⟩, lo⟩ => ?_
  obtain ⟨F1, W1, ws1, r1, l1, w1, x1⟩ := pv
  obtain ⟨ds, ez, h2⟩ := h1.of
  obtain ⟨r2, l2, w2, x2⟩ := freezeT r1 l1 w1
  have r2' : Reps X.K H1 (fun a => F1 a ∨ a ∈ W1) [d.fz] [v] [] := by simpa [D.fzs] using r2
  have kr : Kp H1 (fun a => F1 a ∨ a ∈ W1) H1 := fun a o h _ => h
  cases hd : d.fz <;> rw [hd] at ez <;> simp only [enumRun, reduceCtorEq, Option.some.injEq] at ez
  · subst ez
    rw [hd] at r2'
    obtain ⟨a, us, rfl, hz, r4, s⟩ := r2'.elsF rfl lo
    rcases s with ⟨_, s⟩ | ⟨n, _⟩
    · exact ⟨a, us, rfl, .inr ⟨s _ kr, h2 _ _ ⟨_, ws1, walk_enumT rfl r4 hz s, l2, w2, x1.trans x2⟩⟩⟩
    · exact absurd rfl (n _)
  · subst ez
    rw [hd] at r2'
    obtain ⟨a, us, rfl, hz, r4, s⟩ := r2'.elsF rfl lo
    rcases s with ⟨⟨ts, z⟩, _⟩ | ⟨_, s⟩
    · cases z
    · exact ⟨a, us, rfl, .inl ⟨s _ kr, h2 _ _ ⟨_, ws1, walk_enumL rfl r4 hz s, l2, w2, x1.trans x2⟩⟩⟩

/-! ### tests of a comprehension -/
theorem cn_nil : SCn .nil := by
  intro X Z Γ EX G es hl hc h L σ ws H F l w Q q
  cases es with
  | cons _ _ => simp [chkEs] at h
  | nil =>
    rw [conds_nil] at q
    have q : ∀ H', PostT X.K H F ws.flatten σ L H' → Q true H' := q
    exact fun pins s I => (pts_nil (X := X)).run pins s σ H Q I (q H ⟨F, ws, l, w, Ext.refl⟩)
theorem cn_cons {c : E} {cs : Es} (ih : SE c) : SCn (.cons c cs) := by
  intro X Z Γ EX G es hl hc h L σ ws H F l w Q q
  cases es with
  | nil => simp [chkEs] at h
  | cons x xs =>
    have hx : xs = [] := by cases xs with
      | nil => rfl
      | cons _ _ => simp at hl
    subst hx
    simp only [chkEs, Bool.and_eq_true] at h
    cases cs with
    | cons _ _ => simp [chkEs] at h
    | nil =>
      rw [conds_one] at q
      have := (ih G h.1 l w).2 hc Q q
      exact fun pins s I => (pts_one (ptW (X := X) (e := x))).run pins s σ H Q I this
end
end Q

namespace Q
open PySem L2 PySem.Spec
section
variable {X : Cx} {Z : EnvQ} {Γ : Gam} {EX : XK} {σ : L2.St} {H : Hp} {F : Addr → Prop} {L : Lcs} {ws : List (List Addr)} {e : Expr}

/-! ### comprehensions -/
theorem relN_eq (G : Good X Z Γ EX) (scope : Scope) (cl : List (Str × Addr)) (C : Addr) : (compEnvC scope cl C X.env).scope.names = relN Γ scope := by
  show (scope.names.map fun (n, k) => if (k == NameKind.free && X.env.scope.kind == ScopeKind.function && X.env.kindOf n == some NameKind.cell) then (n, NameKind.cell) else (n, k)) = _
  unfold relN
  congr 1
  funext p
  obtain ⟨n, k⟩ := p
  have e1 : X.env.kindOf n = Γ.sn.lookup n := by rw [← G.sn]; rfl
  have e2 : (X.env.scope.kind == ScopeKind.function) = true := by rw [G.kind]; rfl
  simp only [e1, e2, Bool.and_true]
theorem goodB (G : Good X Z Γ EX) {scope : Scope} {vs : List Nat} (h : blkGood Γ scope vs = true) (s : Shared) (H0 : Hp) (C : Addr) (cl : List (Str × Addr)) (fp : List Addr) :
    Good (X.blk s H0 scope (compEnvC scope cl C X.env) fp) Z (gamB Γ scope vs) E0 := by
  simp only [blkGood, Bool.and_eq_true, decide_eq_true_eq] at h
  obtain ⟨⟨h1, h2⟩, h3⟩ := h
  have ok := blkOk_by h1
  have sn : (compEnvC scope cl C X.env).scope.names = relN Γ scope := relN_eq G scope cl C
  refine ⟨G.calm, ok.kind, G.N, G.nd, sn, fun x hx => ?_, G.bs, G.gs, G.un, fun f hf => ?_⟩
  · have h4 := List.all_eq_true.mp h3 x hx
    simp only [Bool.or_eq_true, Bool.and_eq_true, decide_eq_true_eq] at h4
    show L2.Loc (compEnvC scope cl C X.env).scope x ∧ ((scope.names.lookup x == some .cell) = true ∨ (compEnvC scope cl C X.env).scope.names.lookup x = some .local)
    unfold L2.Loc
    rw [sn]
    rcases h4 with h4 | ⟨h4, h5⟩
    · exact ⟨.inl h4, .inr h4⟩
    · exact ⟨.inr h4, .inl (by rw [h5]; rfl)⟩
  · obtain ⟨a, b, c⟩ := G.ca f hf
    exact ⟨a, passL, c⟩

/-- a thing put behind an own list -/
theorem push_ok {K : PySem.W.Frag} {ds : List D} {a : Addr} {d : D} {v : V} {W0 W1 : List Addr} (r : Reps K H F [.lst true ds] [.ref a] W0) (r2 : Reps K H F [d] [v] W1) (l : LReps K H F L σ ws) (w : Wf H F (W0 ++ (W1 ++ ws.flatten))) :
    ∃ us, H a = some (.lst us) ∧ us.length = ds.length ∧ ∃ W2, Reps K (upd H a (.lst (us ++ [v]))) F [.lst true (ds ++ [d])] [.ref a] W2 ∧ LReps K (upd H a (.lst (us ++ [v]))) F L σ ws ∧ Wf (upd H a (.lst (us ++ [v]))) F (W2 ++ ws.flatten) ∧ Ext H F (W0 ++ (W1 ++ ws.flatten)) (upd H a (.lst (us ++ [v]))) F (W2 ++ ws.flatten) := by
  obtain ⟨b, us, We, e1, s, re, sb, e2, _⟩ := r.lstI
  cases e1
  have e2 := e2 rfl
  subst e2
  refine ⟨us, s, re.length.symm, a :: (We ++ W1), ?_, ?_, ⟨?_, fun c m => ?_, fun c f => ?_⟩, ⟨fun c o h n => ?_, fun c m => .inl ?_, fun _ f => f, fun _ f => .inl f, fun c h => ?_⟩⟩
  · have nd := List.nodup_cons.mp w.nd
    have hd : ∀ c ∈ We ++ W1, c ∉ [a] := fun c m z => by
      have : c = a := by simpa using z
      subst this
      refine nd.1 ?_
      rcases List.mem_append.mp m with m | m
      · exact List.mem_append_left _ m
      · exact List.mem_append_right _ (List.mem_append_left _ m)
    have rr : Reps K (upd H a (.lst (us ++ [v]))) F (ds ++ [d]) (us ++ [v]) (We ++ W1) := by
      refine (re.append r2).frame (B := [a]) (fun c o h n => ?_) (fun c m => ?_) hd (fun c f z => ?_) fun _ f => f
      · rw [upd_ne (by simpa using n)]; exact h
      · have : c = a := by simpa using m
        subst this; exact .inl ⟨_, s⟩
      · have : c = a := by simpa using z
        subst this; exact w.dj c List.mem_cons_self f
    have := Reps.own (F := F) (W2 := []) (upd_same (H := H) (a := a) (o := .lst (us ++ [v]))) rr .nil
    simpa using this
  · have nd := List.nodup_cons.mp w.nd
    refine l.frame (B := [a]) (fun c o h n => ?_) (fun c m => ?_) (fun c m z => ?_) (fun c f z => ?_) fun _ f => f
    · rw [upd_ne (by simpa using n)]; exact h
    · have : c = a := by simpa using m
      subst this; exact .inl ⟨_, s⟩
    · have : c = a := by simpa using z
      subst this; exact nd.1 (List.mem_append_right _ (List.mem_append_right _ m))
    · have : c = a := by simpa using z
      subst this; exact w.dj c List.mem_cons_self f
  · simpa [List.append_assoc] using w.nd
  · exact w.dj c (by simpa [List.append_assoc] using m)
  · by_cases hc : c = a
    · subst hc; rw [upd_same]; exact fun z => nomatch z
    · rw [upd_ne hc]; exact w.tr c f
  · rw [upd_ne fun z => n (by rw [z]; exact List.mem_cons_self)]; exact h
  · simpa [List.append_assoc] using m
  · by_cases hc : c = a
    · subst hc; rw [upd_same]; exact fun z => nomatch z
    · rw [upd_ne hc]; exact h

/-- the readings in any block -/
def gB (X : Cx) (scope : Scope) (tg : Expr) : TG := fun v σ H Q => ∀ (s : Shared) (H0 : Hp) (C : Addr) (cl : List (Str × Addr)) (fp : List Addr), tgW (X.blk s H0 scope (compEnvC scope cl C X.env) fp) tg v σ H Q
def tB (X : Cx) (scope : Scope) (ifs : List Expr) : TT := fun σ H Q => ∀ (s : Shared) (H0 : Hp) (C : Addr) (cl : List (Str × Addr)) (fp : List Addr), tptW (X.blk s H0 scope (compEnvC scope cl C X.env) fp) ifs σ H Q
def eB (X : Cx) (scope : Scope) (elt : Expr) : TE := fun σ H Q => ∀ (s : Shared) (H0 : Hp) (C : Addr) (cl : List (Str × Addr)) (fp : List Addr), tW (X.blk s H0 scope (compEnvC scope cl C X.env) fp) elt σ H Q
theorem pgB {scope : Scope} {tg : Expr} (s : Shared) (H0 : Hp) (C : Addr) (cl : List (Str × Addr)) (fp : List Addr) : PG (X.blk s H0 scope (compEnvC scope cl C X.env) fp) tg (gB X scope tg) := ⟨fun pins s1 σ H v u Q I r h => h s H0 C cl fp pins s1 u I r⟩
theorem ptsB {scope : Scope} {ifs : List Expr} (s : Shared) (H0 : Hp) (C : Addr) (cl : List (Str × Addr)) (fp : List Addr) : PTs (X.blk s H0 scope (compEnvC scope cl C X.env) fp) ifs (tB X scope ifs) := ⟨fun pins s1 σ H Q I h => h s H0 C cl fp pins s1 I⟩
theorem peB {scope : Scope} {elt : Expr} (s : Shared) (H0 : Hp) (C : Addr) (cl : List (Str × Addr)) (fp : List Addr) : PE (X.blk s H0 scope (compEnvC scope cl C X.env) fp) elt (eB X scope elt) := ⟨fun pins s1 σ H Q I h => h s H0 C cl fp pins s1 I⟩

theorem lcRun_cons {tg : Tg} {vs : List Nat} {cond : Lcs → Res (Bool × Lcs)} {elt : Lcs → Res (D × Lcs)} {x : D} {xs : List D} {L Lf : Lcs} {ds : List D} (h : lcRun tg vs cond elt (x :: xs) L = .ok (ds, Lf)) :
    ∃ L1, tg.set x (wipeL L vs) = some L1 ∧ ((∃ L2 d L3 es, cond L1 = .ok (true, L2) ∧ elt L2 = .ok (d, L3) ∧ lcRun tg vs cond elt xs L3 = .ok (es, Lf) ∧ ds = d :: es) ∨ (∃ L2, cond L1 = .ok (false, L2) ∧ lcRun tg vs cond elt xs L2 = .ok (ds, Lf))) := by
  rw [lcRun] at h
  split at h
  · cases h
  · rename_i L1 e1
    refine ⟨L1, e1, ?_⟩
    split at h
    · rename_i L2 e2
      split at h
      · rename_i d L3 e3
        split at h
        · rename_i es L4 e4
          cases h
          exact .inl ⟨L2, d, L3, es, e2, e3, e4, rfl⟩
        · cases h
      · cases h
    · rename_i L2 e2
      exact .inr ⟨L2, e2, h⟩
    · cases h

theorem lcRun_noexn {tg : Tg} {vs : List Nat} {cond : Lcs → Res (Bool × Lcs)} {elt : Lcs → Res (D × Lcs)} : ∀ {xs : List D} {L : Lcs} {c : Str} {d : D}, lcRun tg vs cond elt xs L ≠ .exn c d
  | [], L, c, d, h => by rw [lcRun] at h; cases h
  | x :: xs, L, c, d, h => by
    rw [lcRun] at h
    split at h
    · cases h
    · split at h
      · split at h
        · split at h <;> cases h
        · cases h
      · exact lcRun_noexn h
      · cases h

/-- a comprehension's state ahead of turn i -/
def LcInv (K : PySem.W.Frag) (H1 : Hp) (F1 : Addr → Prop) (W : List Addr) (σ : L2.St) (a : Addr) (vs : List Nat) (run : List D → Lcs → Res (List D × Lcs)) (ds out : List D) (Lf : Lcs) (i : Nat) (H : Hp) : Prop :=
  ∃ (Fi : Addr → Prop) (acc : List D) (W0 : List Addr) (Li : Lcs) (wsi : List (List Addr)) (rest : List D),
    Reps K H Fi [.lst true acc] [.ref a] W0 ∧ acc.length ≤ i ∧ LReps K H Fi (wipeL Li vs) (wipe σ vs) wsi ∧ Wf H Fi (W0 ++ wsi.flatten) ∧ Ext H1 F1 W H Fi (W0 ++ wsi.flatten) ∧ run (ds.drop i) Li = .ok (rest, Lf) ∧ acc ++ rest = out

theorem lc_T (G : Good X Z Γ EX) {vs : List Nat} {tg : Tg} {sc : Src} {cs : Es} {c : E} {elt tgt iter : Expr} {ifs : List Expr} {scope : Scope} (ihs : SSrc sc) (ihc : SCn cs) (ihe : SE c)
    (hb : blkGood Γ scope vs = true) (htg : chkTg (gamB Γ scope vs) tg tgt = true) (hsl : ∀ i ∈ tg.slots, i ∈ vs) (hsrc : chkSrc Γ tgt sc iter = true) (hcs : chkEs (gamB Γ scope vs) cs ifs = true) (hl : ifs.length ≤ 1) (hcn : cnOk cs = true) (helt : chkE (gamB Γ scope vs) c elt = true)
    (l : LReps X.K H F L σ ws) (w : Wf H F ws.flatten) {Q : VK} (q : After X.K X.mg EX H F ws.flatten (den Z (.lc vs tg sc cs c) L) (fun d L' => ∀ v H', PostVs X.K H F ws.flatten σ [d] L' [v] H' → Q v H')) :
    tLc (tiW X tgt iter) (gB X scope tgt) (tB X scope ifs) (eB X scope elt) vs σ H Q := by
  rw [den_lc] at q
  have ndv : vs.Nodup := by
    simp only [blkGood, Bool.and_eq_true, decide_eq_true_eq] at hb
    exact hb.1.2
  refine ihs G hsrc l w _ ?_
  revert q
  generalize src Z sc L = r
  intro q
  cases r with
  | exn c x => exact q
  | bad => exact q
  | ok p =>
    obtain ⟨ds, L1⟩ := p
    intro J H1 pi a ha
    obtain ⟨F1, ws1, wk, l1, w1, x1⟩ := pi
    simp only [Res.bind] at q
    cases hr : lcRun tg vs (fun L => conds Z cs L) (fun L => den Z c L) ds L1 with
    | exn cc x => exact absurd hr lcRun_noexn
    | bad => rw [hr] at q; exact q.elim
    | ok p =>
      obtain ⟨out, Lf⟩ := p
      rw [hr] at q
      have q : ∀ v H', PostVs X.K H F ws.flatten σ [.lst true out] (resetTo L1 (wipeL Lf vs) vs) [v] H' → Q v H' := q
      have kpOf : ∀ {Hn : Hp} {Fn : Addr → Prop} {Wn : List Addr}, Ext H1 F1 ws1.flatten Hn Fn Wn → Kp H1 F1 Hn := fun x => Kp.of x l1.muts w1.dj
      refine lc_it wk.2 (LcInv X.K H1 F1 ws1.flatten σ a vs (lcRun tg vs (fun L => conds Z cs L) (fun L => den Z c L)) ds out Lf) ?_ ?_ ?_ ?_
      · obtain ⟨b1, b2, b3, b4⟩ := new_lst (p := a) (Reps.nil (K := X.K) (H := H1) (F := F1)) l1 (by simpa using w1) ha
        refine ⟨F1, [], [a], L1, wipeWs ws1 vs, out, b1, Nat.le_refl _, b2.wipe vs, b3.sub (List.Sublist.append (List.Sublist.refl _) wipeWs_sub), ?_, by rw [List.drop_zero]; exact hr, rfl⟩
        exact (b4.wid (by simp)).sub fun c m => (List.Sublist.append (List.Sublist.refl [a]) (wipeWs_sub (ws := ws1) (vs := vs))).subset m
      · rintro i Hn _ ⟨Fi, acc, W0, Li, wsi, rest, _, _, _, _, x, _⟩
        exact kpOf x
      · rintro i x Hn H' hi ⟨Fi, acc, W0, Li, wsi, rest, ra, hacc, li, wi, xi, hrun, hout⟩ ⟨ka, d, hd, hrd⟩
        have e1 : ds.drop i = d :: ds.drop (i + 1) := by
          obtain ⟨h1, h2⟩ := List.getElem?_eq_some_iff.mp hd
          rw [← h2]; exact List.drop_eq_getElem_cons h1
        rw [e1] at hrun
        obtain ⟨La, hset, hcase⟩ := lcRun_cons hrun
        have rd := hrd Fi xi.mono
        intro s0 H0 C cl fp
        have GB := goodB G hb s0 H0 C cl fp
        refine tg_ok GB htg (ka.lreps li) rd (W2 := W0) (by simpa using ka.wf wi) hset ?_
        intro us ws' la wa sa
        have hw1 : wipe (setAll (wipe σ vs) tg.slots us) vs = wipe σ vs := by rw [wipe_all hsl, wipe_wipe fun _ m => m]
        refine ⟨hw1, ?_⟩
        have ra' := ka.reps ra
        have xa : Ext H1 F1 ws1.flatten H' Fi (W0 ++ ws'.flatten) := (xi.trans ka.ext).sub fun a m => by
          rcases List.mem_append.mp m with m | m
          · exact List.mem_append_left _ m
          · exact (sa a m).elim (fun z => nomatch z) fun z => List.mem_append_right _ z
        intro s1 H01 C1 cl1 fp1
        have GB1 := goodB G hb s1 H01 C1 cl1 fp1
        refine ihc GB1 hl hcn hcs la wa.right _ ?_
        rcases hcase with ⟨Lb, y, Lc, es, hc1, he1, hr1, he2⟩ | ⟨Lb, hc1, hr1⟩
        · rw [hc1]
          intro H3 pt
          obtain ⟨F3, ws3, l3, w3, x3⟩ := pt
          obtain ⟨ra3, wa3, xa3⟩ := aside ra' la.muts wa x3 w3
          rw [if_pos rfl]
          intro s2 H02 C2 cl2 fp2
          have GB2 := goodB G hb s2 H02 C2 cl2 fp2
          refine (ihe GB2 helt l3 w3).1 _ ?_
          rw [he1]
          intro v H4 pv
          obtain ⟨F4, W4, ws4, r4, l4, w4, x4⟩ := pv
          obtain ⟨ra4, wa4, xa4⟩ := aside ra3 l3.muts wa3 x4 w4
          obtain ⟨us4, h41, h42, W5, r5, l5, w5, x5⟩ := push_ok ra4 r4 l4 wa4
          refine ⟨us4, h41, by rw [h42]; have := wk.1; omega, F4, acc ++ [y], W5, Lc, wipeWs ws4 vs, es, r5, by simp; omega, ?_, w5.sub (List.Sublist.append (List.Sublist.refl _) wipeWs_sub), ?_, hr1, by rw [List.append_assoc]; rw [← hout, he2]; rfl⟩
          · have := l5.wipe vs
            rw [hw1] at this
            exact this
          · exact (((xa.trans xa3).trans xa4).trans x5).sub fun c m => (List.Sublist.append (List.Sublist.refl W5) (wipeWs_sub (ws := ws4) (vs := vs))).subset m
        · rw [hc1]
          intro H3 pt
          obtain ⟨F3, ws3, l3, w3, x3⟩ := pt
          obtain ⟨ra3, wa3, xa3⟩ := aside ra' la.muts wa x3 w3
          rw [if_neg Bool.false_ne_true]
          refine ⟨F3, acc, W0, Lb, wipeWs ws3 vs, rest, ra3, by omega, ?_, wa3.sub (List.Sublist.append (List.Sublist.refl _) wipeWs_sub), ?_, hr1, hout⟩
          · have := l3.wipe vs
            rw [hw1] at this
            exact this
          · exact (xa.trans xa3).sub fun c m => (List.Sublist.append (List.Sublist.refl W0) (wipeWs_sub (ws := ws3) (vs := vs))).subset m
      · rintro Hn ⟨Fi, acc, W0, Li, wsi, rest, ra, hacc, li, wi, xi, hrun, hout⟩
        rw [List.drop_length, lcRun] at hrun
        simp only [Res.ok.injEq, Prod.mk.injEq] at hrun
        obtain ⟨rfl, rfl⟩ := hrun
        rw [List.append_nil] at hout
        subst hout
        have l0 : ∀ i d, was L1 i = some d → ∃ v, σ[i]? = some (some v) ∧ Reps X.K Hn Fi [d] [v] [] := fun i d h => by
          unfold was at h
          split at h <;> try (cases h)
          rename_i d' hd
          split at h <;> simp only [Option.some.injEq, reduceCtorEq] at h
          rename_i hno
          subst h
          obtain ⟨v, e1, r, _⟩ := l1.get hd
          have e2 := r.noOwn (by simpa [D.noOwns] using hno)
          rw [e2] at r
          exact ⟨v, e1, r.kp rfl (kpOf xi) xi.mono⟩
        obtain ⟨ws', l', hw'⟩ := LReps.reset l0 ndv (fun i m o h => wipeL_get o m h) li
        refine q _ _ ⟨Fi, W0, ws', ra, l', by rw [hw']; exact wi, ?_⟩
        rw [hw']
        exact x1.trans xi
end
end Q

namespace Q
open PySem L2 PySem.Spec
section
variable {X : Cx} {Z : EnvQ} {Γ : Gam} {EX : XK} {σ : L2.St} {H : Hp} {F : Addr → Prop} {L : Lcs} {ws : List (List Addr)} {e : Expr}

/-- a value gives its test too -/
theorem se_of {c : E} (tt : ∀ {Γ : Gam} {e : Expr}, chkE Γ c e = true → ttOk e = true ∨ tstOk c = false)
    (g : ∀ {X : Cx} {Z : EnvQ} {Γ : Gam} {EX : XK}, Good X Z Γ EX → ∀ {e : Expr}, chkE Γ c e = true → ∀ {L : Lcs} {σ : L2.St} {ws : List (List Addr)} {H : Hp} {F : Addr → Prop}, LReps X.K H F L σ ws → Wf H F ws.flatten → GoalE X EX e σ H F ws.flatten (den Z c L)) : SE c := by
  intro X Z Γ EX G e h L σ ws H F l w
  refine ⟨g G h l w, fun ht => ?_⟩
  rcases tt h with t | t
  · exact tst_gen t (rd_ok G h l w (g G h l w))
  · rw [t] at ht; cases ht
theorem p_E {p : P} : SE (.p p) := by
  intro X Z Γ EX G e h L σ ws H F l w
  have h' : chkP Γ p e = true := by simpa [chkE] using h
  refine ⟨by intro Q q; rw [den_p] at q; exact keep_ok G h' l w Q q, fun _ => ?_⟩
  intro Q q
  unfold tst at q
  rw [rdW_p] at q
  cases e1 : pur Z.G p L with
  | none => rw [e1] at q; exact q.elim
  | some d =>
    rw [e1] at q
    have q : After X.K X.mg EX H F ws.flatten ((Res.of (tru d)).bind fun b => .ok (b, L)) (fun b L' => ∀ H', PostT X.K H F ws.flatten σ L' H' → Q b H') := q
    obtain ⟨k, ek, h2⟩ := q.of
    exact (soundP G p e h' l e1).2 ek fun H' ka => h2 H' ⟨F, ws, ka.lreps l, ka.wf w, ka.ext⟩
theorem lc_E {vs : List Nat} {tg : Tg} {s : Src} {cs : Es} {c : E} (ihs : SSrc s) (ihc : SCn cs) (ihe : SE c) (G : Good X Z Γ EX) (h : chkE Γ (.lc vs tg s cs c) e = true) (l : LReps X.K H F L σ ws) (w : Wf H F ws.flatten) : GoalE X EX e σ H F ws.flatten (den Z (.lc vs tg s cs c) L) := by
  simp only [chkE] at h
  split at h <;> try (exact absurd h Bool.false_ne_true)
  rename_i elt tgt iter ifs as scope pos
  simp only [Bool.and_eq_true, decide_eq_true_eq] at h
  obtain ⟨⟨⟨⟨⟨⟨⟨⟨⟨rfl, hns⟩, hb⟩, htg⟩, hsl⟩, hsrc⟩, hcs⟩, hl⟩, hcn⟩, helt⟩ := h
  intro Q q
  have hb' := hb
  simp only [blkGood, Bool.and_eq_true, decide_eq_true_eq] at hb'
  have ok : BlkOk X.N X.env.scope scope (ownOf Γ vs) := by
    have := blkOk_by hb'.1.1
    refine ⟨this.kind, this.uniq, by rw [G.N]; exact this.ix, fun y hy e => ?_, by rw [G.N]; exact this.own⟩
    rw [G.sn]; exact this.free y hy e
  have hs : ∀ x, foldedSetIterable iter X.env x = pure x := fun x => by
    cases iter <;> first | rfl | (simp [notSet] at hns)
  have own2 : (ownOf Γ vs).map (·.2) = vs := by
    unfold ownOf
    rw [List.map_map]
    exact List.map_id vs
  refine toW (pe_lc (own := ownOf Γ vs) (wi := tiW X tgt iter) (g := gB X scope tgt) (tt := tB X scope ifs) (te := eB X scope elt) G.calm (by rw [G.N]; exact G.nd) piW ok pgB ptsB peB hs) ?_
  rw [own2]
  exact lc_T G ihs ihc ihe hb htg (fun i m => by simpa using List.all_eq_true.mp hsl i m) hsrc hcs hl hcn helt l w q
theorem ttOk_call {f : Expr} {xs : List Expr} {ks : List PySem.Keyword} {pos : Pos} : ttOk (.Call f xs ks pos) = true := rfl
end
theorem mv_S {i : Nat} : SE (.mv i) := se_of (fun _ => .inr rfl) (by intro X Z Γ EX G e h L σ ws H F l w; exact mv_ok G h l w)
theorem o1_S {o : O1} {a : E} (ih : SE a) : SE (.o1 o a) := by intro X Z Γ EX G e h L σ ws H F l w; exact o1_E G ih h l w
theorem o2_S {o : O2} {a b : E} (iha : SE a) (ihb : SE b) : SE (.o2 o a b) := by intro X Z Γ EX G e h L σ ws H F l w; exact o2_E G iha ihb h l w
theorem and_S {a b : E} (iha : SE a) (ihb : SE b) : SE (.and a b) := by intro X Z Γ EX G e h L σ ws H F l w; exact and_E G iha ihb h l w
theorem or_S {a b : E} (iha : SE a) (ihb : SE b) : SE (.or a b) := by intro X Z Γ EX G e h L σ ws H F l w; exact or_E G iha ihb h l w
theorem ife_S {c a b : E} (ihc : SE c) (iha : SE a) (ihb : SE b) : SE (.ife c a b) := se_of (fun _ => .inr rfl) (by intro X Z Γ EX G e h L σ ws H F l w; exact ife_E G ihc iha ihb h l w)
theorem tup_S {es : Es} (ih : SEs es) : SE (.tup es) := se_of (by intro Γ e h; left; simp only [chkE] at h; split at h <;> first | rfl | exact absurd h Bool.false_ne_true) (by intro X Z Γ EX G e h L σ ws H F l w; exact tup_E G ih h l w)
theorem lst_S {es : Es} (ih : SEs es) : SE (.lst es) := se_of (by intro Γ e h; left; simp only [chkE] at h; split at h <;> first | rfl | exact absurd h Bool.false_ne_true) (by intro X Z Γ EX G e h L σ ws H F l w; exact lst_E G ih h l w)
theorem call_S {f : Str} {kw : List Str} {es : Es} (ih : SEs es) (ihk : SKs es) : SE (.call f kw es) := se_of (by intro Γ e h; left; simp only [chkE] at h; split at h <;> first | rfl | exact absurd h Bool.false_ne_true) (by intro X Z Γ EX G e h L σ ws H F l w; exact call_E G ih ihk h l w)
theorem sq_S {o : SqO} {a : E} (ih : SE a) : SE (.sq o a) := se_of (by intro Γ e h; left; simp only [chkE] at h; split at h <;> first | (rename_i x hx; exact sqAst_ttOk hx) | exact absurd h Bool.false_ne_true) (by intro X Z Γ EX G e h L σ ws H F l w; exact sq_E G ih h l w)
theorem lc_S {vs : List Nat} {tg : Tg} {s : Src} {cs : Es} {c : E} (ihs : SSrc s) (ihc : SCn cs) (ihe : SE c) : SE (.lc vs tg s cs c) := se_of (by intro Γ e h; left; simp only [chkE] at h; split at h <;> first | rfl | exact absurd h Bool.false_ne_true) (by intro X Z Γ EX G e h L σ ws H F l w; exact lc_E ihs ihc ihe G h l w)
theorem cat_S {a b : E} (iha : SE a) (ihb : SE b) : SE (.cat a b) := se_of (by intro Γ e h; left; simp only [chkE] at h; split at h <;> first | (rename_i x y hx; obtain ⟨pos, rfl⟩ := binAst_out hx; rfl) | exact absurd h Bool.false_ne_true) (by intro X Z Γ EX G e h L σ ws H F l w; exact cat_E G iha ihb h l w)
theorem rep_S {a b : E} (iha : SE a) (ihb : SE b) : SE (.rep a b) := se_of (by intro Γ e h; left; simp only [chkE] at h; split at h <;> first | (rename_i x y hx; obtain ⟨pos, rfl⟩ := binAst_out hx; rfl) | exact absurd h Bool.false_ne_true) (by intro X Z Γ EX G e h L σ ws H F l w; exact rep_E G iha ihb h l w)
theorem catl_S {p : P} {qs : List P} : SE (.catl p qs) := se_of (fun _ => .inr rfl) (by intro X Z Γ EX G e h L σ ws H F l w; exact catl_E G h l w)
/-! ### empty dicts -/
section
variable {X : Cx} {Z : EnvQ} {Γ : Gam} {EX : XK} {σ : L2.St} {H : Hp} {F : Addr → Prop} {L : Lcs} {ws : List (List Addr)} {e : Expr}
theorem new_dic {K : PySem.W.Frag} {p : Addr} (l : LReps K H F L σ ws) (w : Wf H F ws.flatten) (hp : H p = none) :
    Reps K (upd H p (.dK [])) F [.dic true [] []] [.ref p] [p] ∧ LReps K (upd H p (.dK [])) F L σ ws ∧ Wf (upd H p (.dK [])) F ([p] ++ ws.flatten) ∧ Ext H F ws.flatten (upd H p (.dK [])) F ([p] ++ ws.flatten) := by
  have k : KA H (upd H p (.dK [])) := KA.new hp
  have n1 : p ∉ ws.flatten := fun z => (l.muts p z).some hp
  refine ⟨?_, k.lreps l, ⟨List.nodup_cons.mpr ⟨n1, w.nd⟩, fun a m => ?_, fun a f => (k.wf w).tr a f⟩, ⟨fun a o h _ => k a o h, fun a m => ?_, fun a f => f, fun a f => .inl f, k.ext (F := F) (W := []) |>.live⟩⟩
  · have := Reps.down (K := K) (F := F) (ks := []) (us := []) (W2 := []) (upd_same (H := H) (a := p) (o := .dK [])) rfl .nil .nil
    simpa using this
  · rcases List.mem_cons.mp m with rfl | m
    · exact fun f => w.tr _ f hp
    · exact w.dj a m
  · rcases List.mem_cons.mp m with rfl | m
    · exact .inr hp
    · exact .inl m
theorem dct_E (G : Good X Z Γ EX) (h : chkE Γ .dct e = true) (l : LReps X.K H F L σ ws) (w : Wf H F ws.flatten) : GoalE X EX e σ H F ws.flatten (den Z .dct L) := by
  simp only [chkE] at h
  split at h <;> try (exact absurd h Bool.false_ne_true)
  intro Q q
  rw [den_dct] at q
  have q : ∀ v H', PostVs X.K H F ws.flatten σ [.dic true [] []] L [v] H' → Q v H' := q
  refine toW pe_dnewK fun p hp => ?_
  obtain ⟨a, b, c, d⟩ := new_dic l w hp
  exact q _ _ ⟨F, [p], ws, a, b, c, d⟩
theorem dct_S : SE .dct := se_of (fun _ => .inr rfl) (by intro X Z Γ EX G e h L σ ws H F l w; exact dct_E G h l w)
theorem dce_E {i : Nat} {vs : List Nat} (G : Good X Z Γ EX) (h : chkE Γ (.dce i vs) e = true) (l : LReps X.K H F L σ ws) (w : Wf H F ws.flatten) : GoalE X EX e σ H F ws.flatten (den Z (.dce i vs) L) := by
  simp only [chkE] at h
  split at h <;> try (exact absurd h Bool.false_ne_true)
  rename_i elt tgt x px as scope lpos hcb
  simp only [Bool.and_eq_true, decide_eq_true_eq] at h
  obtain ⟨⟨rfl, hb⟩, hv⟩ := h
  intro Q q
  rw [den_dce] at q
  obtain ⟨r0, er, q⟩ : ∃ r0, dceRun i L = some r0 ∧ ∀ v H', PostVs X.K H F ws.flatten σ [r0.1] r0.2 [v] H' → Q v H' := by
    cases hr : dceRun i L with
    | none => rw [hr] at q; exact q.elim
    | some r => rw [hr] at q; exact ⟨r, rfl, q⟩
  unfold dceRun at er
  split at er <;> try (cases er)
  rename_i bb hd
  obtain ⟨v, s1, r, _⟩ := l.get hd
  have aux : ∀ W, Reps X.K H F [.dic bb [] []] [v] W → ∃ a, v = .ref a ∧ H a = some (.dK []) := fun W r => by
    cases r with
    | dsh f s e r1 r2 => exact ⟨_, rfl, by simpa using s⟩
    | down s e r1 r2 => exact ⟨_, rfl, by simpa using s⟩
  obtain ⟨a, rfl, ha⟩ := aux _ r
  have hb' := hb
  simp only [blkGood, Bool.and_eq_true, decide_eq_true_eq] at hb'
  have ok : BlkOk X.N X.env.scope scope (ownOf Γ vs) := by
    have := blkOk_by hb'.1.1
    refine ⟨this.kind, this.uniq, by rw [G.N]; exact this.ix, fun y hy e => ?_, by rw [G.N]; exact this.own⟩
    rw [G.sn]; exact this.free y hy e
  refine ty1 (id := "dict") G hcb (call_dictP G.calm) (by decide +kernel) ?_
  refine toW (pe_lock (pe_lc (own := ownOf Γ vs) (wi := iKeys (tVar i)) (g := gB X scope tgt) (tt := tB X scope []) (te := eB X scope elt) G.calm (by rw [G.N]; exact G.nd) (pi_keys (G.var hv)) ok pgB ptsB peB (fun _ => rfl))) ?_
  refine ⟨a, .dK [], ha, by first | exact trivial | exact .inr ⟨_, rfl⟩ | exact .inr (.inl ⟨_, rfl⟩) | simp [Mut], fun od => ?_⟩
  refine ⟨.ref a, s1, a, od, rfl, .inl ⟨[], upd_same, fun D hD => ?_⟩⟩
  have haD : a ≠ D := fun z => by subst z; rw [upd_same] at hD; cases hD
  have hHD : H D = none := by rw [upd_ne (Ne.symm haD)] at hD; exact hD
  refine lc_it (walk_keys (kvs := []) (d := a) (o := od)) (fun _ H' => H' = upd (upd H a (.frz od (.dK []))) D (.lst [])) rfl (fun i H' _ e => by rw [e, upd_ne haD, upd_same]) (fun i x H1 H2 hi => absurd hi (Nat.not_lt_zero _)) (fun H' e => ?_)
  subst e
  refine ⟨by rw [upd_ne haD, upd_same], ?_⟩
  have eH : upd (upd (upd H a (.frz od (.dK []))) D (.lst [])) a (.dK []) = upd H D (.lst []) := by
    funext c
    by_cases h1 : c = a
    · subst h1; rw [upd_same, upd_ne haD, ha]
    · rw [upd_ne h1]
      by_cases h2 : c = D
      · subst h2; rw [upd_same, upd_same]
      · rw [upd_ne h2, upd_ne h1, upd_ne h2]
  rw [eH]
  refine ⟨D, [], [], rfl, .inl (.inl upd_same), .nil, fun p hp => ?_⟩
  have k1 : KA H (upd H D (.lst [])) := KA.new hHD
  obtain ⟨b1, b2, b3, b4⟩ := new_dic (k1.lreps l) (k1.wf w) hp
  exact q _ _ ⟨F, [p], ws, b1, b2, b3, k1.ext.trans b4⟩
theorem dce_S {i : Nat} {vs : List Nat} : SE (.dce i vs) := se_of (fun _ => .inr rfl) (by intro X Z Γ EX G e h L σ ws H F l w; exact dce_E G h l w)
end
/-! ### slices -/
theorem Reps.dropN {K : PySem.W.Frag} : ∀ (n : Nat) {ds : List D} {vs : List V} {W : List Addr}, Reps K H F ds vs W → ∃ W1, Reps K H F (ds.drop n) (vs.drop n) W1 ∧ W1.Sublist W
  | 0, ds, vs, W, r => ⟨W, by simpa using r, List.Sublist.refl _⟩
  | n + 1, [], vs, W, r => by cases r; exact ⟨[], .nil, List.Sublist.refl _⟩
  | n + 1, d :: ds, [], W, r => by cases r
  | n + 1, d :: ds, v :: vs, W, r => by
    obtain ⟨W1, W2, rfl, r1, r2⟩ := Reps.cons_iff.mp r
    obtain ⟨W3, r3, sb⟩ := Reps.dropN n r2
    exact ⟨W3, by simpa using r3, sb.trans (List.sublist_append_right ..)⟩
theorem Reps.takeN {K : PySem.W.Frag} : ∀ (n : Nat) {ds : List D} {vs : List V} {W : List Addr}, Reps K H F ds vs W → ∃ W1, Reps K H F (ds.take n) (vs.take n) W1 ∧ W1.Sublist W
  | 0, ds, vs, W, r => ⟨[], by simpa using Reps.nil, List.nil_sublist _⟩
  | n + 1, [], vs, W, r => by cases r; exact ⟨[], .nil, List.Sublist.refl _⟩
  | n + 1, d :: ds, [], W, r => by cases r
  | n + 1, d :: ds, v :: vs, W, r => by
    obtain ⟨W1, W2, rfl, r1, r2⟩ := Reps.cons_iff.mp r
    obtain ⟨W3, r3, sb⟩ := Reps.takeN n r2
    exact ⟨W1 ++ W3, by simpa using Reps.cons_iff.mpr ⟨W1, W3, rfl, r1, r3⟩, List.Sublist.append (List.Sublist.refl _) sb⟩
theorem Reps.cut {K : PySem.W.Frag} {ds : List D} {us : List V} {W : List Addr} (r : Reps K H F ds us W) (lo hi : Option Int) : ∃ W1, Reps K H F (cutP ds lo hi) (cutV us lo hi) W1 ∧ W1.Sublist W := by
  unfold cutP cutV
  rw [← r.length]
  obtain ⟨W1, r1, s1⟩ := r.dropN (HT.sIx ds.length 0 lo)
  obtain ⟨W2, r2, s2⟩ := r1.takeN (HT.sIx ds.length ds.length hi - HT.sIx ds.length 0 lo)
  exact ⟨W2, r2, s2.trans s1⟩
theorem SqL.ka {K : PySem.W.Frag} {H' : Hp} {a : Addr} {us : List V} (k : KA H H') (s : SqL K H a us) : SqL K H' a us := by
  rcases s with (s | ⟨o, s⟩) | s
  · exact .inl (.inl (k _ _ s))
  · exact .inl (.inr ⟨o, k _ _ s⟩)
  · exact .inr s
theorem SqT.ka {K : PySem.W.Frag} {H' : Hp} {a : Addr} {us : List V} (k : KA H H') (s : SqT K H a us) : SqT K H' a us := by
  rcases s with (s | ⟨o, s⟩) | s
  · exact .inl (.inl (k _ _ s))
  · exact .inl (.inr ⟨o, k _ _ s⟩)
  · exact .inr s
def tO (X : Cx) : Option Expr → TO
  | none => tNoPart
  | some e => tPart (tW X e)
theorem poW {o : Option Expr} : PO X o (tO X o) := by
  cases o with
  | none => exact po_none
  | some e => exact po_some peW
theorem tO_ok (G : Good X Z Γ EX) {c : Es} {o : Option Expr} (h : posOk Γ c o = true) (l : LReps X.K H F L σ ws) {r : Option Int} (e1 : posOf Z.G c L = some r) {Q : Option Int → Hp → Prop} (q : ∀ H', KA H H' → Q r H') : tO X o σ H Q := by
  unfold posOk at h
  split at h
  · simp only [posOf, Option.some.injEq] at e1
    subst e1
    exact q H (KA.refl H)
  · rename_i p e
    simp only [posOf] at e1
    split at e1 <;> simp only [Option.some.injEq, reduceCtorEq] at e1
    rename_i i hp
    subst e1
    refine (soundP G p e h l hp).1 fun u H2 pv => ?_
    obtain ⟨W1, r, m1, m2⟩ := pv.ex
    exact ⟨i, r.intI, q H2 pv.ka⟩
  · exact absurd h Bool.false_ne_true
theorem slice_E {a : E} {lo hi : Es} (ih : SE a) (G : Good X Z Γ EX) (h : chkE Γ (.slice a lo hi) e = true) (l : LReps X.K H F L σ ws) (w : Wf H F ws.flatten) : GoalE X EX e σ H F ws.flatten (den Z (.slice a lo hi) L) := by
  simp only [chkE] at h
  split at h <;> try (exact absurd h Bool.false_ne_true)
  rename_i x le he p2 pos
  simp only [Bool.and_eq_true] at h
  obtain ⟨⟨h1, hlo⟩, hhi⟩ := h
  intro Q q
  rw [den_slice] at q
  refine toW (pe_slice (sl_list.or sl_tupD) peW poW poW) (seqW_ok G ih h1 l w q fun d L1 v H1 h1 len ps => ?_)
  obtain ⟨y, ey, h2⟩ := h1.of
  obtain ⟨F1, W1, W2, ws1, r1, sb, op, l1, w1, x1⟩ := ps
  unfold cutO at ey
  split at ey <;> try (cases ey)
  rename_i lo' hi' e1 e2
  refine tO_ok G hlo l1 e1 fun H2 k2 => tO_ok G hhi (k2.lreps l1) e2 fun H3 k3 => ?_
  have kk : KA H1 H3 := k2.trans k3
  cases d <;> simp only [cutRun, reduceCtorEq, Option.some.injEq] at ey
  · rename_i ds
    split at ey <;> simp only [Option.some.injEq, reduceCtorEq] at ey
    rename_i hw
    subst ey
    obtain ⟨p, us, rfl, s, r2⟩ := op ds rfl
    rcases s with ⟨_, s⟩ | ⟨s, _⟩
    · obtain ⟨W3, r3, sb3⟩ := (kk.reps r2).cut lo' hi'
      refine .inr ⟨p, us, rfl, SqT.ka kk s.1, by rw [← r2.length]; exact hw, fun n ob hn ho => ?_⟩
      have sbs : (W3 ++ ws1.flatten).Sublist (W2 ++ ws1.flatten) := List.Sublist.append sb3 (List.Sublist.refl _)
      obtain ⟨a1, a2, a3, a4⟩ := new_tup ho r3 (kk.lreps l1) ((kk.wf w1).sub sbs) hn
      exact h2 _ _ ⟨F1, W3, ws1, a1, a2, a3, ((x1.trans kk.ext).sub fun a m => sbs.subset m).trans a4⟩
    · exact absurd rfl (s _)
  · rename_i o ds
    subst ey
    obtain ⟨p, us, rfl, s, r2⟩ := op ds rfl
    rcases s with ⟨⟨ts, z⟩, s⟩ | ⟨_, s⟩
    · cases z
    · obtain ⟨W3, r3, sb3⟩ := (kk.reps r2).cut lo' hi'
      refine .inl ⟨p, us, rfl, SqL.ka kk s, fun n hn => ?_⟩
      have sbs : (W3 ++ ws1.flatten).Sublist (W2 ++ ws1.flatten) := List.Sublist.append sb3 (List.Sublist.refl _)
      obtain ⟨a1, a2, a3, a4⟩ := new_lst r3 (kk.lreps l1) ((kk.wf w1).sub sbs) hn
      exact h2 _ _ ⟨F1, n :: W3, ws1, a1, a2, a3, ((x1.trans kk.ext).sub fun a m => sbs.subset m).trans a4⟩
  · rename_i ds
    subst ey
    obtain ⟨p, us, rfl, s, r2⟩ := op ds rfl
    rcases s with ⟨⟨ts, z⟩, s⟩ | ⟨_, s⟩
    · cases z
    · obtain ⟨W3, r3, sb3⟩ := (kk.reps r2).cut lo' hi'
      refine .inl ⟨p, us, rfl, SqL.ka kk s, fun n hn => ?_⟩
      have sbs : (W3 ++ ws1.flatten).Sublist (W2 ++ ws1.flatten) := List.Sublist.append sb3 (List.Sublist.refl _)
      obtain ⟨a1, a2, a3, a4⟩ := new_lst r3 (kk.lreps l1) ((kk.wf w1).sub sbs) hn
      exact h2 _ _ ⟨F1, n :: W3, ws1, a1, a2, a3, ((x1.trans kk.ext).sub fun a m => sbs.subset m).trans a4⟩

/-! ### pop -/
theorem PathW.inj {v x y : V} {is : List Int} (h : PathW H v is x) (h2 : PathW H v is y) : x = y := by
  induction h with
  | nil => cases h2; rfl
  | cons a1 a2 a3 _ ih =>
    cases h2 with
    | cons b1 b2 b3 b4 =>
      rw [a1] at b1; cases b1
      rw [a2] at b2; cases b2
      rw [a3] at b3; cases b3
      exact ih b4
theorem popRun_out {G : Str → Option D} {i : Nat} {path : List P} {j : Int} {r : D × Lcs} (h : popRun G i path j L = some r) :
    ∃ d is ds k x d', L[i]? = some (some d) ∧ pathInts G L path = some is ∧ atPath d is = some (.lst true ds) ∧ ixN ds.length j = some k ∧ ds[k]? = some x ∧ updPath (fun ds => some (ds.eraseIdx k)) d is = some d' ∧ r = (x, L.set i (some d')) := by
  unfold popRun at h
  split at h <;> try (cases h)
  rename_i d is e1 e2
  split at h <;> try (cases h)
  rename_i ds e3
  split at h <;> try (cases h)
  rename_i k e4
  split at h <;> try (cases h)
  rename_i x d' e5 e6
  exact ⟨d, is, ds, k, x, d', e1, e2, e3, e4, e5, e6, rfl⟩
/-- the thing is out -/
theorem pop_post {K : PySem.W.Frag} {i : Nat} {d d' x : D} {is : List Int} {ds : List D} {k : Nat} (l : LReps K H F L σ ws) (w : Wf H F ws.flatten) (e1 : L[i]? = some (some d)) (e3 : atPath d is = some (.lst true ds)) (e5 : ds[k]? = some x) (e6 : updPath (fun ds => some (ds.eraseIdx k)) d is = some d') :
    ∃ v a us u, σ[i]? = some (some v) ∧ PathW H v is (.ref a) ∧ H a = some (.lst us) ∧ us.length = ds.length ∧ us[k]? = some u ∧ PostVs K H F ws.flatten σ [x] (L.set i (some d')) [u] (upd H a (.lst (us.eraseIdx k))) := by
  obtain ⟨v, a, us, Wi, W', p1, p2, p3, p4, p5, p6, p7, p8, p9⟩ := slot_upd (W0 := []) l e1 (by simpa using w) e3
  obtain ⟨u, Wa, Wd, Wb, h1, rfl, ra, rd, rb⟩ := p4.split3 e5
  have r2 : Reps K H F (ds.eraseIdx k) (us.eraseIdx k) (Wa ++ Wb) := by
    rw [List.eraseIdx_eq_take_drop_succ, List.eraseIdx_eq_take_drop_succ]
    exact ra.append rb
  have n1 : a ∉ Wa ++ Wb := fun z => p8 (by
    rcases List.mem_append.mp z with z | z
    · exact List.mem_append_left _ z
    · exact List.mem_append_right _ (List.mem_append_right _ z))
  have n2 : a ∉ Wd := fun z => p8 (List.mem_append_right _ (List.mem_append_left _ z))
  obtain ⟨ws', q1, q2, q3⟩ := p9 (fun ds => some (ds.eraseIdx k)) (us.eraseIdx k) _ d' (Wa ++ Wb) Wd [] rfl e6 (frame1 p3 r2 n1 p6) (by
    refine List.perm_iff_count.mpr fun c => ?_
    simp only [List.count_append, List.count_nil]
    omega)
  exact ⟨v, a, us, u, p1, p2, p3, p4.length.symm, h1, F, Wd, ws', frame1 p3 rd n2 p6, q1, q2, by simpa using q3⟩
theorem attrBase {X : Cx} {i : Nat} {ps : List P} {o : Expr} {nm : Str} (h : chkPath Γ i ps o = true) : attributeBase o nm X.env (eval o X.env) = eval o X.env := by
  cases ps with
  | nil => unfold chkPath at h; split at h <;> first | rfl | exact absurd h Bool.false_ne_true
  | cons p ps => unfold chkPath at h; split at h <;> first | rfl | exact absurd h Bool.false_ne_true
theorem few1 {X : Cx} {y : Expr} {cpos : Pos} (ns : notStar y = true) : ((backTo cpos (starEach [y] X.env)).all (fun x => !x.1) && (backToKw cpos (keywordEach [] X.env)).all (fun x => x.1.isSome) && decide ([y].length + ([] : List PySem.Keyword).length + (if ([] : List PySem.Keyword).isEmpty then 0 else 1) < 30)) = true := by
  rw [starEach_of ns]; rfl
theorem pop0_E {i : Nat} {path : List P} (G : Good X Z Γ EX) (h : chkE Γ (.popi i path .nil) e = true) (l : LReps X.K H F L σ ws) (w : Wf H F ws.flatten) : GoalE X EX e σ H F ws.flatten (den Z (.popi i path .nil) L) := by
  simp only [chkE] at h
  split at h <;> try (exact absurd h Bool.false_ne_true)
  rename_i o nm apos xs cpos
  simp only [Bool.and_eq_true, decide_eq_true_eq] at h
  obtain ⟨⟨⟨⟨⟨rfl, hline⟩, hp⟩, _⟩, _⟩, hes⟩ := h
  cases xs with
  | cons _ _ => simp [chkEs] at hes
  | nil =>
    intro Q q
    rw [den_pop0] at q
    cases hr : popRun Z.G i path (-1) L with
    | none => rw [hr] at q; exact q.elim
    | some r =>
      rw [hr] at q
      obtain ⟨d, is, ds, k, x, d', e1, e2, e3, e4, e5, e6, rfl⟩ := popRun_out hr
      obtain ⟨v, a, us, u, s1, pw, s3, hl, hu, post⟩ := pop_post l w e1 e3 e5 e6
      have hk : k = us.length - 1 := by
        have := ixN_seq e4
        obtain ⟨t1, t2, t3, t4⟩ := this
        unfold ixN at e4
        rw [if_neg (by omega), if_pos (by omega)] at e4
        simp only [Option.some.injEq] at e4
        omega
      refine toW (pe_bm0 PySem.F.plainAttrs_list PySem.F.slot_list_pop PySem.F.type_list_pop mt_pop peW (attrBase hp) hline) ?_
      refine path_E G hp l s1 (by rw [List.reverse_reverse]; exact e2) pw fun H1 k1 => ⟨.inl ⟨rfl, us, .inl (.inl (k1 _ _ s3))⟩, ?_⟩
      obtain ⟨v2, a2, us2, u2, s1', pw', s3', hl', hu', post'⟩ := pop_post (k1.lreps l) (k1.wf w) e1 e3 e5 e6
      rw [s1] at s1'; cases s1'
      have ea := (pw.ka k1).inj pw'
      cases ea
      rw [k1 _ _ s3] at s3'; cases s3'
      refine ⟨a, us, u, rfl, rfl, k1 _ _ s3, by rw [← hk]; exact hu, ?_⟩
      have ed : us.dropLast = us.eraseIdx k := by rw [hk, PyProof.Rows.Copied.eraseIdx_last]
      rw [ed]
      have : u = u2 := by rw [hu] at hu'; exact Option.some.inj hu'
      subst this
      exact q _ _ (post'.comp k1.ext)
theorem popAt_go {i : Nat} {path : List P} {o y : Expr} {apos cpos : Pos} (G : Good X Z Γ EX) (hline : (apos.endLine == cpos.line) = true) (hp : chkPath Γ i path.reverse o = true) (ns : notStar y = true) {Q : VK} {is : List Int} {v : V} {a : Addr} {us : List V}
    (l : LReps X.K H F L σ ws) (s1 : σ[i]? = some (some v)) (e2 : pathInts Z.G L path = some is) (pw : PathW H v is (.ref a)) (s3 : H a = some (.lst us))
    (q : ∀ H1, KA H H1 → tW X y σ H1 fun x H2 => rPopAt (.ref a) [x] H2 Q) : tW X (.Call (.Attribute o (Str.ofString "pop") apos) [y] [] cpos) σ H Q := by
  refine toW (pe_bm PySem.F.plainAttrs_list PySem.F.slot_list_pop PySem.F.type_list_pop mt_popAt peW (pa_cons peW pa_nil (starEach_of ns)) (attrBase hp) (few1 ns) hline (starEach_of ns) rfl) ?_
  refine path_E G hp l s1 (by rw [List.reverse_reverse]; exact e2) pw fun H1 k1 => ⟨.inl ⟨rfl, us, .inl (.inl (k1 _ _ s3))⟩, ?_⟩
  exact q H1 k1
theorem ixN_range {n : Nat} {j : Int} {k : Nat} (h : ixN n j = some k) (hn : n ≤ sizeLine) : -(2 ^ 63) ≤ j ∧ j < 2 ^ 63 := by
  have t := ixN_seq h
  rw [sizeLine_eq] at hn
  omega
theorem pop1_E {i : Nat} {path : List P} {c : E} (ih : SE c) (G : Good X Z Γ EX) (h : chkE Γ (.popi i path (.cons c .nil)) e = true) (l : LReps X.K H F L σ ws) (w : Wf H F ws.flatten) : GoalE X EX e σ H F ws.flatten (den Z (.popi i path (.cons c .nil)) L) := by
  simp only [chkE] at h
  split at h <;> try (exact absurd h Bool.false_ne_true)
  rename_i o nm apos xs cpos
  simp only [Bool.and_eq_true, decide_eq_true_eq] at h
  obtain ⟨⟨⟨⟨⟨rfl, hline⟩, hp⟩, hpl⟩, hln⟩, hes⟩ := h
  cases xs with
  | nil => simp [chkEs] at hes
  | cons y ys =>
    have hy : ys = [] := by cases ys with
      | nil => rfl
      | cons _ _ => simp at hln
    subst hy
    have ns : notStar y = true := by simpa [plainOf] using hpl
    simp only [chkEs, Bool.and_eq_true] at hes
    intro Q q
    cases path with
    | nil =>
      rw [den_pop1] at q
      obtain ⟨_, el, q⟩ := q.ofB
      unfold lstAt at el
      split at el <;> try (cases el)
      rename_i ds0 hd0
      obtain ⟨v, s1, r0, _⟩ := l.get hd0
      obtain ⟨a, us0, W0, rfl, s3, _⟩ := r0.lstI
      refine popAt_go G hline hp ns l s1 rfl .nil s3 fun H1 k1 => ?_
      have gc := (ih G hes.1 (k1.lreps l) (k1.wf w)).1
      have q' := q.step (k1.ext (F := F) (W := ws.flatten)) (W2 := ws.flatten) fun _ m => m
      refine (tW.len (gc.use (R := fun x H2 => ∃ d0 L1, After X.K X.mg EX H1 F ws.flatten ((Res.of (intOf d0)).bind fun j => Res.of (popRun Z.G i [] j L1)) (fun d L' => ∀ v H', PostVs X.K H F ws.flatten σ [d] L' [v] H' → Q v H') ∧ PostVs X.K H1 F ws.flatten σ [d0] L1 [x] H2) q' fun d0 L1 x H2 h1 pv => ⟨d0, L1, h1, pv⟩)).mono fun x H2 ⟨⟨d0, L1, h1, pv⟩, lo⟩ => ?_
      obtain ⟨F1, W1, ws1, r1, l1, w1, x1⟩ := pv
      obtain ⟨j, ej, h2⟩ := h1.ofB
      have hd1 : d0 = .int j := by
        cases d0 <;> simp only [intOf, reduceCtorEq, Option.some.injEq] at ej
        rw [ej]
      subst hd1
      cases hr : popRun Z.G i [] j L1 with
      | none => rw [hr] at h2; exact h2.elim
      | some r =>
        rw [hr] at h2
        obtain ⟨d, is, ds, k, y', d', e1, e2, e3, e4, e5, e6, rfl⟩ := popRun_out hr
        obtain ⟨v2, a2, us2, u2, s1', pw', s3', hl', hu', post'⟩ := pop_post l1 w1.right e1 e3 e5 e6
        rw [s1] at s1'; cases s1'
        simp only [pathInts, Option.some.injEq] at e2
        subst e2
        cases pw'
        have hz := lo a us2 (.inl (.inl s3'))
        have hr2 := ixN_range e4 (by rw [← hl']; exact hz)
        exact ⟨a, us2, j, k, u2, rfl, by rw [r1.intI], s3', hr2.1, hr2.2, by rw [hl']; exact (ixN_seq e4).1, hu', h2 _ _ (post'.comp ((k1.ext.trans x1).sub fun c m => List.mem_append_right _ m))⟩
    | cons p ps =>
      rw [den_pop2] at q
      obtain ⟨d0, ed, q⟩ := q.ofB
      obtain ⟨j, ej, q⟩ := q.ofB
      cases hr : popRun Z.G i (p :: ps) j L with
      | none => rw [hr] at q; exact q.elim
      | some r =>
        rw [hr] at q
        obtain ⟨d, is, ds, k, x, d', e1, e2, e3, e4, e5, e6, rfl⟩ := popRun_out hr
        have q' : ∀ v H', PostVs X.K H F ws.flatten σ [x] (L.set i (some d')) [v] H' → Q v H' := q
        obtain ⟨v, a, us, u, s1, pw, s3, hl, hu, post⟩ := pop_post l w e1 e3 e5 e6
        refine popAt_go G hline hp ns l s1 e2 pw s3 fun H1 k1 => ?_
        cases c with
        | p p0 =>
          simp only [purE] at ed
          refine (tW.len ((soundP G p0 y (by simpa [chkE] using hes.1) (k1.lreps l) ed).1 (Q := fun v H' => PV X.K H1 F ws p0 d0 v H') fun _ _ pv => pv)).mono fun u0 H2 ⟨pv, lo⟩ => ?_
          obtain ⟨W1, r, m1, m2⟩ := pv.ex
          have hd0 : d0 = .int j := by
            cases d0 <;> simp only [intOf, reduceCtorEq, Option.some.injEq] at ej
            rw [ej]
          subst hd0
          have kk : KA H H2 := k1.trans pv.ka
          obtain ⟨v2, a2, us2, u2, s1', pw', s3', hl', hu', post'⟩ := pop_post (kk.lreps l) (kk.wf w) e1 e3 e5 e6
          rw [s1] at s1'; cases s1'
          have ea := (pw.ka kk).inj pw'
          cases ea
          rw [kk _ _ s3] at s3'; cases s3'
          have hz := lo a us (.inl (.inl (kk _ _ s3)))
          have hr2 := ixN_range e4 (by rw [← hl]; exact hz)
          refine ⟨a, us, _, k, u2, rfl, by rw [r.intI], kk _ _ s3, hr2.1, hr2.2, by rw [hl]; exact (ixN_seq e4).1, hu', q' _ _ (post'.comp kk.ext)⟩
        | _ => simp [purE] at ed
theorem pop0_S {i : Nat} {path : List P} : SE (.popi i path .nil) := se_of (fun _ => .inr rfl) (by intro X Z Γ EX G e h L σ ws H F l w; exact pop0_E G h l w)
theorem pop1_S {i : Nat} {path : List P} {c : E} (ih : SE c) : SE (.popi i path (.cons c .nil)) := se_of (fun _ => .inr rfl) (by intro X Z Γ EX G e h L σ ws H F l w; exact pop1_E ih G h l w)
theorem pop2_S {i : Nat} {path : List P} {c c2 : E} {cs : Es} : SE (.popi i path (.cons c (.cons c2 cs))) := by
  intro X Z Γ EX G e h
  simp only [chkE] at h
  split at h <;> try (exact absurd h Bool.false_ne_true)
  simp only [Bool.and_eq_true, decide_eq_true_eq] at h
  have := chkEs_len h.2
  simp only [Es.len] at this
  omega
theorem slice_S {a : E} {lo hi : Es} (ih : SE a) : SE (.slice a lo hi) := se_of (by intro Γ e h; left; simp only [chkE] at h; split at h <;> first | rfl | exact absurd h Bool.false_ne_true) (by intro X Z Γ EX G e h L σ ws H F l w; exact slice_E ih G h l w)
theorem nev_S  : SE (.nev) := se_of (fun _ => .inr rfl) (by intro X Z Γ EX G e h L σ ws H F l w Q q; rw [den_nev] at q; exact q.elim)
/-! ### index, list(range), displays with stars -/
theorem SqD.ka {K : PySem.W.Frag} {H' : Hp} {a : Addr} {us : List V} (k : KA H H') (s : SqD K H a us) : SqD K H' a us := by
  refine ⟨SqT.ka k s.1, ?_⟩
  rcases s.2 with ⟨o, u, h1, h2⟩ | h2
  · exact .inl ⟨o, u, k _ _ h1, h2⟩
  · exact .inr h2
theorem findD_at {K : PySem.W.Frag} {x : D} {y : V} {Wx : List Addr} {Fx : Addr → Prop} (rx : Reps K H Fx [x] [y] Wx) (hx : flatD x = true) : ∀ {ds : List D} {us : List V} {W : List Addr} {k j : Nat}, Reps K H F ds us W → ds.all flatD = true → findD x k ds = some j →
    ∃ i z, j = k + i ∧ us[i]? = some z ∧ eqV z y = true ∧ ∀ (m : Nat) (z' : V), m < i → us[m]? = some z' → eqV z' y = false := by
  intro ds
  induction ds with
  | nil => intro us W k j r h e; simp [findD] at e
  | cons d ds ih =>
    intro us W k j r h e
    cases us with
    | nil => cases r
    | cons u us =>
      obtain ⟨W1, W2, rfl, r1, r2⟩ := Reps.cons_iff.mp r
      simp only [List.all_cons, Bool.and_eq_true] at h
      have e0 := eqF_of r1 rx h.1 hx
      unfold findD at e
      split at e
      · rename_i hq
        cases e
        exact ⟨0, u, rfl, rfl, by rw [e0]; exact hq, fun m z' hm => absurd hm (by omega)⟩
      · rename_i hq
        obtain ⟨i, z, e1, e2, e3, e4⟩ := ih r2 h.2 e
        refine ⟨i + 1, z, by omega, by simpa using e2, e3, fun m z' hm hz => ?_⟩
        cases m with
        | zero =>
          simp only [List.getElem?_cons_zero, Option.some.injEq] at hz
          subst hz
          rw [e0]; exact Bool.eq_false_iff.mpr hq
        | succ m => exact e4 m z' (by omega) (by simpa using hz)
theorem idx_E {a : E} {b : P} (ih : SE a) (G : Good X Z Γ EX) (h : chkE Γ (.idx a b) e = true) (l : LReps X.K H F L σ ws) (w : Wf H F ws.flatten) : GoalE X EX e σ H F ws.flatten (den Z (.idx a b) L) := by
  simp only [chkE] at h
  split at h <;> try (exact absurd h Bool.false_ne_true)
  rename_i o nm apos x cpos
  simp only [Bool.and_eq_true, decide_eq_true_eq] at h
  obtain ⟨⟨⟨⟨⟨rfl, hline⟩, ns⟩, hb⟩, ha⟩, hx⟩ := h
  intro Q q
  rw [den_idx] at q
  refine toW (pe_bmU peW (pa_cons peW pa_nil (starEach_of ns)) (base_of hb) (few1 ns) hline (starEach_of ns)) ?_
  refine seqW_ok G ih ha l w q fun d L1 v H1 h1 lo ps => ?_
  obtain ⟨F1, W1, W2, ws1, r1, sb, op, l1, w1, x1⟩ := ps
  obtain ⟨ds, hd, h2⟩ := h1.ofB
  obtain ⟨y, hy, h3⟩ := h2.ofB
  obtain ⟨z, hz, h4⟩ := h3.of
  obtain ⟨p, us, rfl, s, r2⟩ := op ds hd
  unfold idxRun at hz
  split at hz <;> try (cases hz; done)
  rename_i hf
  simp only [Bool.and_eq_true] at hf
  split at hz <;> try (cases hz; done)
  rename_i j hj
  cases hz
  have fin : ∀ (S : Hp → Addr → List V → Prop), (∀ H2, KA H1 H2 → S H2 p us) → tW X x σ H1 fun u H2 => rIdx S (.ref p) [u] H2 Q := fun S hS => by
    refine (soundP G b x hx l1 hy).1 fun u H2 pv => ?_
    obtain ⟨W3, r3, m1, m2⟩ := pv.ex
    obtain ⟨i, z, e1, e2, e3, e4⟩ := findD_at r3 hf.1 (pv.ka.reps r2) hf.2 hj
    have e1 : j = i := by omega
    subst e1
    refine ⟨p, us, u, z, j, rfl, rfl, hS H2 pv.ka, flat_of r3 hf.1, flats_of (pv.ka.reps r2) hf.2, e2, e3, e4, ?_⟩
    exact h4 _ _ ⟨F1, [], ws1, .int .nil, pv.ka.lreps l1, by simpa using pv.ka.wf w1.right, (x1.sub fun a m => List.mem_append_right _ (by simpa using m)).trans pv.ka.ext⟩
  rcases s with ⟨_, s⟩ | ⟨_, s⟩
  · exact ⟨"tuple", "tuple.index", _, ⟨PySem.F.plainAttrs_tuple, PySem.F.slot_tuple_index, PySem.F.type_tuple_index⟩, mt_idxT, fun pins s0 v0 I r => by cases r; exact tyT I s.1 s.2, fin _ fun H2 k => SqT.ka k s.1⟩
  · exact ⟨"list", "list.index", _, ⟨PySem.F.plainAttrs_list, PySem.F.slot_list_index, PySem.F.type_list_index⟩, mt_idxL, fun pins s0 v0 I r => tyV_is I r (.inl ⟨rfl, us, s⟩), fin _ fun H2 k => SqL.ka k s⟩
theorem rg_lst {K : PySem.W.Frag} (i j : Int) : Reps K H F (rngD i (j - i).toNat) (rgV i j) [] := by
  have : ∀ (n : Nat) (lo : Int), Reps K H F (rngD lo n) ((List.range n).map fun k => V.int (lo + (k : Nat))) [] := by
    intro n
    induction n with
    | zero => intro lo; exact .nil
    | succ n ih =>
      intro lo
      rw [rngD, List.range_succ_eq_map, List.map_cons, List.map_map]
      have e1 : lo + ((0 : Nat) : Int) = lo := by simp
      have e2 : (fun k : Nat => V.int (lo + 1 + (k : Nat))) = (fun k : Nat => V.int (lo + (k : Nat))) ∘ Nat.succ := by
        funext k
        simp only [Function.comp]
        congr 1
        omega
      have := ih (lo + 1)
      rw [e2] at this
      rw [e1]
      exact .int this
  exact this _ _
theorem rg_ok {i j : Int} (h : -1000000 < i ∧ i < 1000000 ∧ -1000000 < j ∧ j < 1000000) : RgOk i j := ⟨by omega, by omega, by omega, by omega, by omega⟩
theorem lr_post {K : PySem.W.Frag} {σ : L2.St} {H : Hp} {F : Addr → Prop} {ws : List (List Addr)} {F1 : Addr → Prop} {H1 : Hp} {ws1 : List (List Addr)} {L1 : Lcs} {i j : Int} {n : Addr} (l1 : LReps K H1 F1 L1 σ ws1) (w1 : Wf H1 F1 ws1.flatten) (x1 : Ext H F ws.flatten H1 F1 ws1.flatten) (hn : H1 n = none) :
    PostVs K H F ws.flatten σ [.lst true (rngD i (j - i).toNat)] L1 [.ref n] (upd H1 n (.lst (rgV i j))) := by
  obtain ⟨a1, a2, a3, a4⟩ := new_lst (rg_lst (K := K) (H := H1) (F := F1) i j) l1 (by simpa using w1) hn
  exact ⟨F1, [n], ws1, a1, a2, a3, x1.trans (by simpa using a4)⟩
theorem lr1_E {b : E} (ih : SE b) (G : Good X Z Γ EX) (h : chkE Γ (.lr1 b) e = true) (l : LReps X.K H F L σ ws) (w : Wf H F ws.flatten) : GoalE X EX e σ H F ws.flatten (den Z (.lr1 b) L) := by
  simp only [chkE] at h
  split at h <;> try (exact absurd h Bool.false_ne_true)
  rename_i f y pos hcb
  simp only [Bool.and_eq_true] at h
  obtain ⟨⟨hf, ny⟩, hy⟩ := h
  obtain ⟨f2, pos2, rfl, hl, nl⟩ := callB1_out hcb
  obtain ⟨p, rfl, g1, g2, g3, g4⟩ := G.blt hf
  obtain ⟨p2, rfl, k1, k2, k3, k4⟩ := G.blt hl
  intro Q q
  rw [den_lr1] at q
  refine toW (pe_listRg G.calm k1 k4 (prg_1 g1 g4 peW (starEach_of ny)) (starEach_of nl)) ((ih G hy l w).1.use q fun d L1 v H1 h1 pv => ?_)
  obtain ⟨F1, W1, ws1, r1, l1, w1, x1⟩ := pv
  obtain ⟨x, ex, h2⟩ := h1.ofB
  have h2 : ∀ v H', PostVs X.K H F ws.flatten σ [.lst true x] L1 [v] H' → Q v H' := h2
  rcases rngRun_out ex with ⟨j, hd, hj, rfl⟩ | ⟨i, j, hd, _⟩
  · cases hd
    refine ⟨j, r1.intI, rg_ok ⟨by omega, by omega, hj.1, hj.2⟩, fun n hn => h2 _ _ ?_⟩
    have := lr_post (i := 0) (j := j) l1 w1.right (x1.sub fun a m => List.mem_append_right _ m) hn
    rwa [Int.sub_zero] at this
  · cases hd
theorem lr2_E {a b : E} (iha : SE a) (ihb : SE b) (G : Good X Z Γ EX) (h : chkE Γ (.lr2 a b) e = true) (l : LReps X.K H F L σ ws) (w : Wf H F ws.flatten) : GoalE X EX e σ H F ws.flatten (den Z (.lr2 a b) L) := by
  simp only [chkE] at h
  split at h <;> try (exact absurd h Bool.false_ne_true)
  rename_i f x y pos hcb
  simp only [Bool.and_eq_true] at h
  obtain ⟨⟨⟨⟨hf, nx⟩, ny⟩, hx⟩, hy⟩ := h
  obtain ⟨f2, pos2, rfl, hl, nl⟩ := callB1_out hcb
  obtain ⟨p, rfl, g1, g2, g3, g4⟩ := G.blt hf
  obtain ⟨p2, rfl, k1, k2, k3, k4⟩ := G.blt hl
  intro Q q
  rw [den_lr2] at q
  refine toW (pe_listRg G.calm k1 k4 (prg_2 g1 g4 peW peW (by rw [starEach_of nx, starEach_of ny]) (starEach_of ny) (plain_any (es := [y]) (by simp [plainOf, ny]))) (starEach_of nl)) ((iha G hx l w).1.use q fun d L1 v H1 h1 pv => ?_)
  obtain ⟨F1, W1, ws1, r1, l1, w1, x1⟩ := pv
  refine (ihb G hy l1 w1.right).1.use (h1.step x1 fun a m => List.mem_append_right _ m) fun d2 L2 u H2 h2 pv2 => ?_
  obtain ⟨F2, W2, ws2, r2, l2, w2, x2⟩ := pv2
  obtain ⟨z, ez, h3⟩ := h2.ofB
  have h3 : ∀ v H', PostVs X.K H F ws.flatten σ [.lst true z] L2 [v] H' → Q v H' := h3
  rcases rngRun_out ez with ⟨j, hd, _⟩ | ⟨i, j, hd, hj, rfl⟩
  · cases hd
  · cases hd
    obtain ⟨r1', w12, x12⟩ := aside r1 l1.muts w1 x2 w2
    refine ⟨i, j, r1.intI, r2.intI, rg_ok ⟨hj.1, hj.2.1, hj.2.2.1, hj.2.2.2⟩, fun n hn => h3 _ _ ?_⟩
    exact lr_post l2 w2.right ((x1.trans x12).sub fun a m => List.mem_append_right _ (List.mem_append_right _ m)) hn
/-- a list of expressions, some with a star -/
def SSt (c : Es) : Prop := ∀ {X : Cx} {Z : EnvQ} {Γ : Gam} {EX : XK}, Good X Z Γ EX → ∀ {es : List Expr}, chkEs Γ c (unStar es) = true → ∀ {L Lz : Lcs} {σ : L2.St} {ws : List (List Addr)} {H : Hp} {F : Addr → Prop} {ds rs : List D}, LReps X.K H F L σ ws → Wf H F ws.flatten →
  dens Z c L = .ok (ds, Lz) → spliceD (starFl es) ds = some rs → ∀ {Q : List V → Hp → Prop}, (∀ vs H', PostVs X.K H F ws.flatten σ rs Lz vs H' → Q vs H') → taW X es σ H Q
theorem st_nil : SSt .nil := by
  intro X Z Γ EX G es h L L2 σ ws H F ds rs l w hd hs Q q
  cases es with
  | cons _ _ => simp [unStar, chkEs] at h
  | nil =>
    rw [dens_nil] at hd
    cases hd
    simp only [starFl, List.map_nil, spliceD, Option.some.injEq] at hs
    subst hs
    exact toAW pa_nil (q [] H ⟨F, [], ws, .nil, l, by simpa using w, by simpa using Ext.refl⟩)
theorem notStar_of {x : Expr} (h : isStar x = false) : notStar x = true := by cases x <;> first | rfl | (simp [isStar] at h)
theorem st_cons {c : E} {cs : Es} (ih : SE c) (ihs : SSt cs) : SSt (.cons c cs) := by
  intro X Z Γ EX G es h L L2 σ ws H F ds rs l w hd hs Q q
  cases es with
  | nil => simp [unStar, chkEs] at h
  | cons x xs =>
    simp only [unStar, List.map_cons, chkEs, Bool.and_eq_true] at h
    rw [dens_cons] at hd
    cases e1 : den Z c L with
    | exn c x => rw [e1] at hd; cases hd
    | bad => rw [e1] at hd; cases hd
    | ok p =>
      obtain ⟨d, L1⟩ := p
      rw [e1] at hd
      simp only [Res.bind] at hd
      cases e2 : dens Z cs L1 with
      | exn c x => rw [e2] at hd; cases hd
      | bad => rw [e2] at hd; cases hd
      | ok p2 =>
        obtain ⟨ds2, L3⟩ := p2
        rw [e2] at hd
        cases hd
        have gc := (ih G h.1 l w).1
        rw [e1] at gc
        cases hx : isStar x with
        | false =>
          have ns := notStar_of hx
          have eu : unStar1 x = x := by cases x <;> first | rfl | (simp [isStar] at hx)
          rw [eu] at gc
          have hs' : ∃ rs2, spliceD (starFl xs) ds2 = some rs2 ∧ rs = d :: rs2 := by
            simp only [starFl, List.map_cons, hx, spliceD] at hs
            split at hs <;> try (cases hs; done)
            rename_i r hr
            cases hs
            exact ⟨r, hr, rfl⟩
          obtain ⟨rs2, hs2, rfl⟩ := hs'
          refine toAW (pa_cons peW paW (starEach_of ns)) (gc _ fun v H1 pv => ?_)
          obtain ⟨F1, W1, ws1, r1, l1, w1, x1⟩ := pv
          refine ihs G h.2 l1 w1.right e2 hs2 fun vs H2 pv2 => ?_
          obtain ⟨F2, W2, ws2, r2, l2, w2, x2⟩ := pv2
          obtain ⟨r1', w12, x12⟩ := aside r1 l1.muts w1 x2 w2
          exact q _ _ ⟨F2, W1 ++ W2, ws2, Reps.cons_iff.mpr ⟨W1, W2, rfl, r1', r2⟩, l2, by rw [List.append_assoc]; exact w12, by rw [List.append_assoc]; exact x1.trans x12⟩
        | true =>
          cases x <;> try (simp [isStar] at hx; done)
          rename_i e pos
          have hs' : ∃ es2 rs2, d.els = some es2 ∧ spliceD (starFl xs) ds2 = some rs2 ∧ rs = es2 ++ rs2 := by
            simp only [starFl, List.map_cons, hx, spliceD] at hs
            split at hs <;> try (cases hs; done)
            rename_i es2 r he hr
            cases hs
            exact ⟨es2, r, he, hr, rfl⟩
          obtain ⟨es2, rs2, he, hs2, rfl⟩ := hs'
          refine toAW (StX.pa_star peW paW rfl) (gc _ fun v H1 pv => ?_)
          obtain ⟨F1, W1, ws1, r1, l1, w1, x1⟩ := pv
          obtain ⟨p, us, W0, rfl, s, r0, sb⟩ := r1.els2 he
          have sbs : (W0 ++ ws1.flatten).Sublist (W1 ++ ws1.flatten) := List.Sublist.append sb (List.Sublist.refl _)
          refine ⟨p, us, rfl, s.elim (fun z => .inl z.2.1) (fun z => .inr z.2), ?_⟩
          refine ihs G h.2 l1 w1.right e2 hs2 fun vs H2 pv2 => ?_
          obtain ⟨F2, W2, ws2, r2, l2, w2, x2⟩ := pv2
          obtain ⟨r0', w12, x12⟩ := aside r0 l1.muts (w1.sub sbs) x2 w2
          exact q _ _ ⟨F2, W0 ++ W2, ws2, r0'.append r2, l2, by rw [List.append_assoc]; exact w12, by rw [List.append_assoc]; exact (x1.sub fun a m => sbs.subset m).trans x12⟩
theorem star_E {fl : List Bool} {es : Es} (ih : SSt es) (G : Good X Z Γ EX) (h : chkE Γ (.star fl es) e = true) (l : LReps X.K H F L σ ws) (w : Wf H F ws.flatten) : GoalE X EX e σ H F ws.flatten (den Z (.star fl es) L) := by
  simp only [chkE] at h
  split at h <;> try (exact absurd h Bool.false_ne_true)
  rename_i xs pos
  simp only [Bool.and_eq_true, decide_eq_true_eq] at h
  obtain ⟨rfl, hc⟩ := h
  intro Q q
  rw [den_star] at q
  cases e1 : dens Z es L with
  | exn c x => rw [e1] at q; exact q.elim
  | bad => rw [e1] at q; exact q.elim
  | ok p =>
    obtain ⟨ds, L1⟩ := p
    rw [e1] at q
    have q : After X.K X.mg EX H F ws.flatten ((Res.of (starRun (starFl xs) ds)).bind fun x => .ok (x, L1)) (fun d L' => ∀ v H', PostVs X.K H F ws.flatten σ [d] L' [v] H' → Q v H') := q
    obtain ⟨y, ey, h2⟩ := q.of
    unfold starRun at ey
    split at ey <;> try (cases ey; done)
    rename_i rs hr
    split at ey <;> try (cases ey; done)
    rename_i hl
    cases ey
    refine toW (pe_lst paW) (ih G hc l w e1 hr fun vs H1 pv => ?_)
    obtain ⟨F1, W1, ws1, r1, l1, w1, x1⟩ := pv
    refine ⟨by rw [← r1.length, sizeLine_eq]; omega, fun p hp => ?_⟩
    obtain ⟨a, b, c, d⟩ := new_lst r1 l1 w1 hp
    exact h2 _ _ ⟨F1, p :: W1, ws1, a, b, c, x1.trans d⟩
theorem idx_S {a : E} {b : P} (ih : SE a) : SE (.idx a b) := se_of (by intro Γ e h; left; simp only [chkE] at h; split at h <;> first | rfl | exact absurd h Bool.false_ne_true) (by intro X Z Γ EX G e h L σ ws H F l w; exact idx_E ih G h l w)
theorem lr1_S {b : E} (ih : SE b) : SE (.lr1 b) := se_of (by intro Γ e h; left; simp only [chkE] at h; split at h <;> first | (rename_i hcb; obtain ⟨_, _, rfl, _⟩ := callB1_out hcb; rfl) | exact absurd h Bool.false_ne_true) (by intro X Z Γ EX G e h L σ ws H F l w; exact lr1_E ih G h l w)
theorem lr2_S {a b : E} (iha : SE a) (ihb : SE b) : SE (.lr2 a b) := se_of (by intro Γ e h; left; simp only [chkE] at h; split at h <;> first | (rename_i hcb; obtain ⟨_, _, rfl, _⟩ := callB1_out hcb; rfl) | exact absurd h Bool.false_ne_true) (by intro X Z Γ EX G e h L σ ws H F l w; exact lr2_E iha ihb G h l w)
theorem star_S {fl : List Bool} {es : Es} (ih : SSt es) : SE (.star fl es) := se_of (by intro Γ e h; left; simp only [chkE] at h; split at h <;> first | rfl | exact absurd h Bool.false_ne_true) (by intro X Z Γ EX G e h L σ ws H F l w; exact star_E ih G h l w)
mutual
theorem soundE : ∀ c : E, SE c
  | .p p => p_E
  | .mv i => mv_S
  | .o1 o a => o1_S (soundE a)
  | .o2 o a b => o2_S (soundE a) (soundE b)
  | .and a b => and_S (soundE a) (soundE b)
  | .or a b => or_S (soundE a) (soundE b)
  | .ife c a b => ife_S (soundE c) (soundE a) (soundE b)
  | .tup es => tup_S (soundEs es)
  | .lst es => lst_S (soundEs es)
  | .call f kw es => call_S (soundEs es) (soundKs es)
  | .sq o a => sq_S (soundE a)
  | .lc vs tg s cs c => lc_S (soundSrc s) (soundCn cs) (soundE c)
  | .cat a b => cat_S (soundE a) (soundE b)
  | .rep a b => rep_S (soundE a) (soundE b)
  | .slice a lo hi => slice_S (soundE a)
  | .idx a b => idx_S (soundE a)
  | .lr1 b => lr1_S (soundE b)
  | .lr2 a b => lr2_S (soundE a) (soundE b)
  | .star fl es => star_S (soundSt es)
  | .catl p qs => catl_S
  | .dct => dct_S
  | .dce i vs => dce_S
  | .popi i path .nil => pop0_S
  | .popi i path (.cons e .nil) => pop1_S (soundE e)
  | .popi i path (.cons e (.cons e2 es)) => pop2_S
  | .nev => nev_S
theorem soundEs : ∀ c : Es, SEs c
  | .nil => es_nil
  | .cons e es => es_cons (soundE e) (soundEs es)
theorem soundSt : ∀ c : Es, SSt c
  | .nil => st_nil
  | .cons e es => st_cons (soundE e) (soundSt es)
theorem soundKs : ∀ c : Es, SKs c
  | .nil => ks_nil
  | .cons e es => ks_cons (soundE e) (soundKs es)
theorem soundSrc : ∀ c : Src, SSrc c
  | .e e => src_E (soundE e)
  | .rng es => src_R (soundEs es)
  | .zip a b => src_Z (soundE a) (soundE b)
  | .enum e => src_N (soundE e)
theorem soundCn : ∀ c : Es, SCn c
  | .nil => cn_nil
  | .cons e es => cn_cons (soundE e)
end
end Q

namespace Q
open PySem L2 PySem.Spec

/-! ## statements -/
mutual
inductive S where
  | asg (tg : Tg) (e : E)
  | par (is : List Nat) (es : Es)
  | setx (i : Nat) (path : List P) (k : P) (e : E)
  | setE (i : Nat) (k : E) (e : E)
  | ex (e : E)
  | app (i : Nat) (path : List P) (e : E)
  | ext (i : Nat) (e : E)
  | ifs (c : E) (a b : Ss)
  | for_ (tg : Tg) (s : Src) (b : Ss)
  | whl (c : E) (b : Ss)
  | ret (e : E) | retn | brk | cont | pass | nev
inductive Ss where
  | nil | cons (s : S) (ss : Ss)
end
inductive RS where
  | nx (L : Lcs) | rt (d : D) (L : Lcs) | bk (L : Lcs) | ct (L : Lcs) | exn (c : Str) (d : D) | bad
def Res.seq {α : Type} (r : Res α) (f : α → RS) : RS := match r with | .ok a => f a | .exn c d => .exn c d | .bad => .bad
def RS.seq (r : RS) (f : Lcs → RS) : RS := match r with | .nx L => f L | r => r
def RS.of : Option Lcs → RS
  | some L => .nx L
  | none => .bad
/-- a for's turns -/
def forRun (tg : Tg) (body : Lcs → RS) : List D → Lcs → RS
  | [], L => .nx L
  | x :: xs, L => match tg.set x L with
    | none => .bad
    | some L1 => match body L1 with
      | .nx L2 => forRun tg body xs L2
      | .ct L2 => forRun tg body xs L2
      | .bk L2 => .nx L2
      | r => r
def whlRun (cond : Lcs → Res (Bool × Lcs)) (body : Lcs → RS) : Nat → Lcs → RS
  | 0, _ => .bad
  | n + 1, L => (cond L).seq fun r => if r.1 then (match body r.2 with
      | .nx L2 => whlRun cond body n L2
      | .ct L2 => whlRun cond body n L2
      | .bk L2 => .nx L2
      | r => r) else .nx r.2
def setAllO (is : List Nat) (ds : List D) (L : Lcs) : Option Lcs := if is.length = ds.length then some ((is.zip ds).foldl (fun L p => L.set p.1 (some p.2)) L) else none
/-- slot[path][k] = d -/
def setxRun (G : Str → Option D) (i : Nat) (path : List P) (k : P) (x : D) (L : Lcs) : Option Lcs :=
  match L[i]?, pathInts G L path, pur G k L with
  | some (some d), some is, some (.int j) => (match updPath (fun ds => match ixN ds.length j with | some n => some (ds.set n x) | none => none) d is with
    | some d' => some (L.set i (some d'))
    | none => none)
  | _, _, _ => none
/-- slot[k] = x, the index worked out behind x -/
def setKRun (i : Nat) (kd x : D) (L : Lcs) : Option Lcs :=
  match L[i]?, kd with
  | some (some (.lst true ds)), .int j => (match ixN ds.length j with | some n => some (L.set i (some (.lst true (ds.set n x)))) | none => none)
  | _, _ => none
def appF (x : D) (ds : List D) : Option (List D) := if ds.length < 1000000 then some (ds ++ [x]) else none
def appRun (G : Str → Option D) (i : Nat) (path : List P) (x : D) (L : Lcs) : Option Lcs :=
  match L[i]?, pathInts G L path with
  | some (some d), some is => (match updPath (appF x) d is with
    | some d' => some (L.set i (some d'))
    | none => none)
  | _, _ => none
def extRun (i : Nat) (x : D) (L : Lcs) : Option Lcs :=
  match L[i]?, x with
  | some (some (.lst true ds)), .lst _ es => if ds.length + es.length ≤ 1000000 then some (L.set i (some (.lst true (ds ++ es)))) else none
  | _, _ => none
def noOwnOf (o : Option D) : Option D := match o with | some d => if d.noOwn then some d else none | none => none

mutual
def runS (V : EnvQ) : S → Lcs → RS
  | .asg tg e, L => (den V e L).seq fun r => RS.of (tg.set r.1 r.2)
  | .par is es, L => (dens V es L).seq fun r => RS.of (setAllO is r.1 r.2)
  | .setx i path k e, L => (den V e L).seq fun r => RS.of (setxRun V.G i path k r.1 r.2)
  | .setE i k e, L => (den V e L).seq fun r => (Res.of (lstAt r.2 i)).seq fun _ => (den V k r.2).seq fun q => RS.of (setKRun i q.1 r.1 q.2)
  | .ex e, L => (den V e L).seq fun r => .nx r.2
  | .app i path e, L => match path with
    | [] => (Res.of (lstAt L i)).seq fun _ => (den V e L).seq fun r => RS.of (appRun V.G i [] r.1 r.2)
    | p :: ps => (Res.of (noOwnOf (purE V.G e L))).seq fun d => RS.of (appRun V.G i (p :: ps) d L)
  | .ext i e, L => (Res.of (lstAt L i)).seq fun _ => (den V e L).seq fun r => RS.of (extRun i r.1 r.2)
  | .ifs c a b, L => (rdW V c (fun L => den V c L) L).seq fun r => (Res.of (tru r.1)).seq fun k => if k then runSs V a r.2 else runSs V b r.2
  | .for_ tg s b, L => (src V s L).seq fun r => forRun tg (fun L => runSs V b L) r.1 r.2
  | .whl c b, L => whlRun (fun L => (rdW V c (fun L => den V c L) L).bind fun r => (Res.of (tru r.1)).bind fun b => .ok (b, r.2)) (fun L => runSs V b L) V.N L
  | .ret e, L => (den V e L).seq fun r => .rt r.1 r.2
  | .retn, L => .rt .non L
  | .brk, L => .bk L
  | .cont, L => .ct L
  | .pass, L => .nx L
  | .nev, _ => .bad
def runSs (V : EnvQ) : Ss → Lcs → RS
  | .nil, L => .nx L
  | .cons s ss, L => (runS V s L).seq fun L1 => runSs V ss L1
end
section
variable (V : EnvQ) (L : Lcs)
theorem run_asg (tg : Tg) (e : E) : runS V (.asg tg e) L = (den V e L).seq fun r => RS.of (tg.set r.1 r.2) := by rw [runS]
theorem run_par (is : List Nat) (es : Es) : runS V (.par is es) L = (dens V es L).seq fun r => RS.of (setAllO is r.1 r.2) := by rw [runS]
theorem run_setx (i : Nat) (path : List P) (k : P) (e : E) : runS V (.setx i path k e) L = (den V e L).seq fun r => RS.of (setxRun V.G i path k r.1 r.2) := by rw [runS]
theorem run_setE (i : Nat) (k : E) (e : E) : runS V (.setE i k e) L = (den V e L).seq fun r => (Res.of (lstAt r.2 i)).seq fun _ => (den V k r.2).seq fun q => RS.of (setKRun i q.1 r.1 q.2) := by rw [runS]
theorem run_ex (e : E) : runS V (.ex e) L = (den V e L).seq fun r => .nx r.2 := by rw [runS]
theorem run_app0 (i : Nat) (e : E) : runS V (.app i [] e) L = (Res.of (lstAt L i)).seq fun _ => (den V e L).seq fun r => RS.of (appRun V.G i [] r.1 r.2) := by rw [runS]
theorem run_app1 (i : Nat) (p : P) (ps : List P) (e : E) : runS V (.app i (p :: ps) e) L = (Res.of (noOwnOf (purE V.G e L))).seq fun d => RS.of (appRun V.G i (p :: ps) d L) := by rw [runS]
theorem run_ext (i : Nat) (e : E) : runS V (.ext i e) L = (Res.of (lstAt L i)).seq fun _ => (den V e L).seq fun r => RS.of (extRun i r.1 r.2) := by rw [runS]
theorem run_ifs (c : E) (a b : Ss) : runS V (.ifs c a b) L = (rdW V c (fun L => den V c L) L).seq fun r => (Res.of (tru r.1)).seq fun k => if k then runSs V a r.2 else runSs V b r.2 := by rw [runS]
theorem run_for (tg : Tg) (s : Src) (b : Ss) : runS V (.for_ tg s b) L = (src V s L).seq fun r => forRun tg (fun L => runSs V b L) r.1 r.2 := by rw [runS]
theorem run_whl (c : E) (b : Ss) : runS V (.whl c b) L = whlRun (fun L => tst V c L) (fun L => runSs V b L) V.N L := by rw [runS]; rfl
theorem run_ret (e : E) : runS V (.ret e) L = (den V e L).seq fun r => .rt r.1 r.2 := by rw [runS]
theorem run_retn : runS V .retn L = .rt .non L := by rw [runS]
theorem run_brk : runS V .brk L = .bk L := by rw [runS]
theorem run_cont : runS V .cont L = .ct L := by rw [runS]
theorem run_pass : runS V .pass L = .nx L := by rw [runS]
theorem run_nev : runS V .nev L = .bad := by rw [runS]
theorem runs_nil : runSs V .nil L = .nx L := by rw [runSs]
theorem runs_cons (s : S) (ss : Ss) : runSs V (.cons s ss) L = (runS V s L).seq fun L1 => runSs V ss L1 := by rw [runSs]
end

/-! ## statements in the text -/
def notLC : Expr → Bool
  | .ListComp .. => false
  | .SetComp .. => false
  | .DictComp .. => false
  | _ => true
theorem noSwap {e : Expr} {t : Option Expr} {l : Nat} {env : PySem.Env} (h : notLC e = true) : swapsWith e t l env = pure false := by
  cases e <;> first | rfl | (simp [notLC] at h)
def notTup : Expr → Bool
  | .Tuple .. => false
  | _ => true
def isNames : List Expr → Bool
  | [] => true
  | .Name .. :: es => isNames es
  | _ => false
/-- stores that swap: two or three plain local names on a line, a tuple of as many -/
def locs (Γ : Gam) (line : Nat) : List Expr → Option (List Str)
  | [] => some []
  | .Name x p :: es => if Γ.sn.lookup x = some .local ∧ (p.line == line) = true then (match locs Γ line es with | some r => some (x :: r) | none => none) else none
  | _ => none
/-- an in-line comprehension stored by its own name -/
def swLc (Γ : Gam) (t : Expr) (e : Expr) : Bool := match t, e with
  | .Name x p, .ListComp _ _ scope pos => decide (Γ.sn.lookup x = some .local) && (p.line == pos.line) && !(scope.names.any fun (n, k) => n == x && (k == .local || k == .cell))
  | _, _ => false
def noLc (Γ : Gam) (t : Expr) (e : Expr) : Bool := match t, e with
  | .Name x p, .ListComp _ _ scope pos => !decide (Γ.sn.lookup x = some .local) || !(p.line == pos.line) || (scope.names.any fun (n, k) => n == x && (k == .local || k == .cell))
  | _, e => notLC e
/-- a tuple stored into a tuple of names goes through a new tuple -/
def noPar (Γ : Gam) (t : Expr) (e : Expr) : Bool := match t, e with
  | .Tuple ts _ _, .Tuple vs _ _ => !(ts.length == 2 || ts.length == 3) || vs.length != ts.length || (locs Γ ((ts.head?.map (·.pos.line)).getD 0) ts).isNone || vs.all (foldedForSure 8)
  | .List .., .Tuple .. => false
  | _, _ => true
def isLc : E → Bool
  | .lc .. => true
  | _ => false
mutual
def chkS (Γ : Gam) (M : List Nat) : S → Stmt → Bool
  | .asg tg e, st => match st with
    | .Assign [t] v pos => chkTg Γ tg t && (tg.slots.all fun i => !decide (i ∈ M)) && chkE Γ e v && noPar Γ t v && (noLc Γ t v || (swLc Γ t v && isLc e))
    | _ => false
  | .par is es, st => match st with
    | .Assign [.Tuple ts _ _] (.Tuple vs _ _) pos => nmsOk Γ is ts && plainOf vs && chkEs Γ es vs && (is.all fun i => !decide (i ∈ M)) && decide is.Nodup && (match locs Γ ((ts.head?.map (·.pos.line)).getD 0) ts with | some xs => decide (xs.eraseDups.length = xs.length) | none => false) &&
        decide (vs.length = ts.length) && (ts.length == 2 || ts.length == 3) && !(vs.all (foldedForSure 8)) && !(vs.all (constantsAlone 8))
    | _ => false
  | .setx i path k e, st => match st with
    | .Assign [.Subscript o y _] v pos => chkPath Γ i path.reverse o && chkP Γ k y && notSlice y && chkE Γ e v && notLC v && notTup v
    | _ => false
  | .setE i k e, st => match st with
    | .Assign [.Subscript o y _] v pos => chkPath Γ i [] o && chkE Γ k y && notSlice y && chkE Γ e v && notLC v && notTup v
    | _ => false
  | .ex e, st => match st with
    | .Expr v _ => chkE Γ e v && notLC v
    | _ => false
  | .app i path e, st => match st with
    | .Expr (.Call (.Attribute o nm apos) xs [] cpos) _ => (match xs with | [y] => decide (nm = Str.ofString "append") && (apos.endLine == cpos.line) && chkPath Γ i path.reverse o && notStar y && chkE Γ e y | _ => false)
    | _ => false
  | .ext i e, st => match st with
    | .Expr (.Call (.Attribute o nm apos) xs [] cpos) _ => (match xs with | [y] => decide (nm = Str.ofString "extend") && (apos.endLine == cpos.line) && chkPath Γ i [] o && notStar y && chkE Γ e y | _ => false)
    | _ => false
  | .ifs c a b, st => match st with
    | .If t xs ys _ => chkE Γ c t && tstOk c && chkSs Γ M a xs && chkSs Γ M b ys
    | _ => false
  | .for_ tg s b, st => match st with
    | .For t it xs ys _ => chkTg Γ tg t && (tg.slots.all fun i => !decide (i ∈ M)) && chkSrc Γ t s it && notSet it && chkSs Γ M b xs && ys.isEmpty
    | _ => false
  | .whl c b, st => match st with
    | .While t xs ys _ => chkE Γ c t && tstOk c && chkSs Γ M b xs && ys.isEmpty
    | _ => false
  | .ret e, st => match st with
    | .Return (some v) _ => chkE Γ e v
    | _ => false
  | .retn, st => match st with
    | .Return none _ => true
    | _ => false
  | .brk, st => match st with | .Break _ => true | _ => false
  | .cont, st => match st with | .Continue _ => true | _ => false
  | .pass, st => match st with
    | .Pass _ => true
    | .Expr (.Constant (.str _) _ _) _ => true
    | _ => false
  | .nev, _ => true
def chkSs (Γ : Gam) (M : List Nat) : Ss → List Stmt → Bool
  | .nil, [] => true
  | .cons s ss, x :: xs => chkS Γ M s x && chkSs Γ M ss xs
  | _, _ => false
end
end Q

namespace Q
open PySem L2 PySem.Spec

def tsW (X : Cx) (st : Stmt) : TS := fun D σ H => ∀ pins s, Inv X pins σ H s → wpAny (model X.prog X.w) X.A (exec st X.env) (SP X pins D) X.xe s
def tssW (X : Cx) (st : List Stmt) : TS := fun D σ H => ∀ pins s, Inv X pins σ H s → wpAny (model X.prog X.w) X.A (execs st X.env) (SP X pins D) X.xe s
theorem psW {X : Cx} {st : Stmt} : PS X st (tsW X st) := ⟨fun pins s σ H D I h => h pins s I⟩
theorem pssW {X : Cx} {st : List Stmt} : PSs X st (tssW X st) := ⟨fun pins s σ H D I h => h pins s I⟩
theorem toS {X : Cx} {st : Stmt} {t : TS} (h : PS X st t) {D : Ends} {σ : L2.St} {H : Hp} (q : t D σ H) : tsW X st D σ H := fun pins s I => h.run pins s σ H D I q
theorem toSs {X : Cx} {st : List Stmt} {t : TS} (h : PSs X st t) {D : Ends} {σ : L2.St} {H : Hp} (q : t D σ H) : tssW X st D σ H := fun pins s I => h.run pins s σ H D I q

def PostN (K : PySem.W.Frag) (H : Hp) (F : Addr → Prop) (W : List Addr) (M : List Nat) (σ : L2.St) (L' : Lcs) (σ' : L2.St) (H' : Hp) : Prop :=
  ∃ (F' : Addr → Prop) (ws' : List (List Addr)), LReps K H' F' L' σ' ws' ∧ Wf H' F' ws'.flatten ∧ Ext H F W H' F' ws'.flatten ∧ ∀ i ∈ M, σ'[i]? = σ[i]?
def PostRt (K : PySem.W.Frag) (H : Hp) (F : Addr → Prop) (W : List Addr) (M : List Nat) (σ : L2.St) (d : D) (L' : Lcs) (v : V) (σ' : L2.St) (H' : Hp) : Prop :=
  ∃ (F' : Addr → Prop) (W1 : List Addr) (ws' : List (List Addr)), Reps K H' F' [d] [v] W1 ∧ LReps K H' F' L' σ' ws' ∧ Wf H' F' (W1 ++ ws'.flatten) ∧ Ext H F W H' F' (W1 ++ ws'.flatten) ∧ ∀ i ∈ M, σ'[i]? = σ[i]?
def AfterS (K : PySem.W.Frag) (mg : Str → Option Value) (EX : XK) (H : Hp) (F : Addr → Prop) (W : List Addr) (M : List Nat) (σ : L2.St) (r : RS) (E : Ends) : Prop :=
  match r with
  | .nx L' => ∀ σ' H', PostN K H F W M σ L' σ' H' → E.nx σ' H'
  | .bk L' => ∀ σ' H', PostN K H F W M σ L' σ' H' → E.bk σ' H'
  | .ct L' => ∀ σ' H', PostN K H F W M σ L' σ' H' → E.ct σ' H'
  | .rt d L' => ∀ v σ' H', PostRt K H F W M σ d L' v σ' H' → E.rt v H'
  | .exn c x => ∀ cls dd H' F', ExOk K mg H' F' c x cls dd → Ext H F W H' F' [] → EX cls dd H'
  | .bad => False
section
variable {K : PySem.W.Frag} {mg : Str → Option Value} {EX : XK} {H H1 : Hp} {F F1 : Addr → Prop} {W W1 W2 : List Addr} {M : List Nat} {σ σ1 : L2.St} {r : RS} {E : Ends}
theorem PostN.comp {L' : Lcs} {σ' : L2.St} {H' : Hp} (x : Ext H F W H1 F1 W1) (s : ∀ a ∈ W2, a ∈ W1) (m : ∀ i ∈ M, σ1[i]? = σ[i]?) (p : PostN K H1 F1 W2 M σ1 L' σ' H') : PostN K H F W M σ L' σ' H' := by
  obtain ⟨F', ws', l, w, y, n⟩ := p
  exact ⟨F', ws', l, w, x.trans (y.wid s), fun i h => (n i h).trans (m i h)⟩
theorem PostRt.comp {d : D} {L' : Lcs} {v : V} {σ' : L2.St} {H' : Hp} (x : Ext H F W H1 F1 W1) (s : ∀ a ∈ W2, a ∈ W1) (m : ∀ i ∈ M, σ1[i]? = σ[i]?) (p : PostRt K H1 F1 W2 M σ1 d L' v σ' H') : PostRt K H F W M σ d L' v σ' H' := by
  obtain ⟨F', W', ws', r, l, w, y, n⟩ := p
  exact ⟨F', W', ws', r, l, w, x.trans (y.wid s), fun i h => (n i h).trans (m i h)⟩
theorem AfterS.step (h : AfterS K mg EX H F W M σ r E) (x : Ext H F W H1 F1 W1) (s : ∀ a ∈ W2, a ∈ W1) (m : ∀ i ∈ M, σ1[i]? = σ[i]?) : AfterS K mg EX H1 F1 W2 M σ1 r E := by
  cases r with
  | nx L => exact fun σ' H' p => h σ' H' (p.comp x s m)
  | bk L => exact fun σ' H' p => h σ' H' (p.comp x s m)
  | ct L => exact fun σ' H' p => h σ' H' (p.comp x s m)
  | rt d L => exact fun v σ' H' p => h v σ' H' (p.comp x s m)
  | exn c d => exact fun cls dd H' F' e y => h cls dd H' F' e (x.trans (y.wid s))
  | bad => exact h
theorem AfterS.of {o : Option Lcs} (h : AfterS K mg EX H F W M σ (RS.of o) E) : ∃ L, o = some L ∧ ∀ σ' H', PostN K H F W M σ L σ' H' → E.nx σ' H' := by
  cases o with
  | none => exact h.elim
  | some L => exact ⟨L, rfl, h⟩
theorem AfterS.ofB {α : Type} {o : Option α} {f : α → RS} (h : AfterS K mg EX H F W M σ ((Res.of o).seq f) E) : ∃ x, o = some x ∧ AfterS K mg EX H F W M σ (f x) E := by
  cases o with
  | none => exact h.elim
  | some x => exact ⟨x, rfl, h⟩
end
section
variable {X : Cx} {Z : EnvQ} {Γ : Gam} {EX : XK} {M : List Nat} {σ : L2.St} {H : Hp} {F : Addr → Prop} {W : List Addr} {L : Lcs} {ws : List (List Addr)} {E : Ends}
theorem GoalE.useS {e : Expr} {r : Res (D × Lcs)} {f : D × Lcs → RS} (g : GoalE X EX e σ H F W r) (h : AfterS X.K X.mg EX H F W M σ (r.seq f) E) {R : VK}
    (k : ∀ d L1 v H1, AfterS X.K X.mg EX H F W M σ (f (d, L1)) E → PostVs X.K H F W σ [d] L1 [v] H1 → R v H1) : tW X e σ H R := by
  refine g R ?_
  cases r with
  | ok a => obtain ⟨d, L1⟩ := a; exact fun v H' p => k d L1 v H' h p
  | exn c x => exact h
  | bad => exact h
theorem GoalT.useS {e : Expr} {r : Res (Bool × Lcs)} {f : Bool × Lcs → RS} (g : GoalT X EX e σ H F W r) (h : AfterS X.K X.mg EX H F W M σ (r.seq f) E) {R : Bool → Hp → Prop}
    (k : ∀ d L1 H1, AfterS X.K X.mg EX H F W M σ (f (d, L1)) E → PostT X.K H F W σ L1 H1 → R d H1) : ttW X e σ H R := by
  refine g R ?_
  cases r with
  | ok a => obtain ⟨d, L1⟩ := a; exact fun H' p => k d L1 H' h p
  | exn c x => exact h
  | bad => exact h
theorem GoalA.useS {es : List Expr} {r : Res (List D × Lcs)} {f : List D × Lcs → RS} (g : GoalA X EX es σ H F W r) (h : AfterS X.K X.mg EX H F W M σ (r.seq f) E) {R : List V → Hp → Prop}
    (k : ∀ d L1 v H1, AfterS X.K X.mg EX H F W M σ (f (d, L1)) E → PostVs X.K H F W σ d L1 v H1 → R v H1) : taW X es σ H R := by
  refine g R ?_
  cases r with
  | ok a => obtain ⟨d, L1⟩ := a; exact fun v H' p => k d L1 v H' h p
  | exn c x => exact h
  | bad => exact h
theorem GoalI.useS {tg e : Expr} {r : Res (List D × Lcs)} {f : List D × Lcs → RS} (g : GoalI X EX tg e σ H F W r) (h : AfterS X.K X.mg EX H F W M σ (r.seq f) E) {R : It → Hp → Prop}
    (k : ∀ ds L1 J H1, AfterS X.K X.mg EX H F W M σ (f (ds, L1)) E → PostI X.K tg H F W σ ds L1 J H1 → R J H1) : tiW X tg e σ H R := by
  refine g R ?_
  cases r with
  | ok a => obtain ⟨d, L1⟩ := a; exact fun J H' p => k d L1 J H' h p
  | exn c x => exact h
  | bad => exact h

def SS (c : S) : Prop := ∀ {X : Cx} {Z : EnvQ} {Γ : Gam} {EX : XK}, Good X Z Γ EX → PassesOwn (model X.prog X.w) X.A X.env X.xe → ∀ {M : List Nat} {st : Stmt}, chkS Γ M c st = true → ∀ {L : Lcs} {σ : L2.St} {ws : List (List Addr)} {H : Hp} {F : Addr → Prop} {E : Ends}, LReps X.K H F L σ ws → Wf H F ws.flatten →
  AfterS X.K X.mg EX H F ws.flatten M σ (runS Z c L) E → tsW X st E σ H
def SSs (c : Ss) : Prop := ∀ {X : Cx} {Z : EnvQ} {Γ : Gam} {EX : XK}, Good X Z Γ EX → PassesOwn (model X.prog X.w) X.A X.env X.xe → ∀ {M : List Nat} {st : List Stmt}, chkSs Γ M c st = true → ∀ {L : Lcs} {σ : L2.St} {ws : List (List Addr)} {H : Hp} {F : Addr → Prop} {E : Ends}, LReps X.K H F L σ ws → Wf H F ws.flatten →
  AfterS X.K X.mg EX H F ws.flatten M σ (runSs Z c L) E → tssW X st E σ H

theorem setAll_out {j : Nat} : ∀ {is : List Nat} {us : List V} {σ : L2.St}, j ∉ is → (setAll σ is us)[j]? = σ[j]?
  | [], us, σ, _ => by cases us <;> rfl
  | i :: is, [], σ, _ => rfl
  | i :: is, u :: us, σ, h => by
    show (setAll (σ.set i (some u)) is us)[j]? = _
    rw [setAll_out fun z => h (List.mem_cons_of_mem _ z), List.getElem?_set_ne fun z => h (by rw [z]; exact List.mem_cons_self)]
theorem mOut {is M : List Nat} (h : (is.all fun i => !decide (i ∈ M)) = true) : ∀ m ∈ M, m ∉ is := fun m hm z => by
  have := List.all_eq_true.mp h m z
  simp [hm] at this

/-! ### stores -/
theorem asg_tgt (G : Good X Z Γ EX) {tg : Tg} {t : Expr} (h : chkTg Γ tg t = true) (hM : (tg.slots.all fun i => !decide (i ∈ M)) = true) {d : D} {L1 : Lcs} {v : V} {H1 : Hp} (q : AfterS X.K X.mg EX H F W M σ (RS.of (tg.set d L1)) E) (p : PostVs X.K H F W σ [d] L1 [v] H1) :
    tgW X t v σ H1 E.nx := by
  obtain ⟨L2, e, q⟩ := q.of
  obtain ⟨F1, W1, ws1, r1, l1, w1, x1⟩ := p
  refine tg_ok G h l1 (.inl r1) (W2 := []) (by simpa using w1) e fun us ws' l2 w2 m2 => ?_
  exact q _ _ ⟨F1, ws', l2, by simpa using w2, x1.sub fun a m => List.mem_append.mpr (m2 a m), fun i hi => setAll_out (mOut hM i hi)⟩
theorem each1 {tg : Tg} {t : Expr} {env : PySem.Env} (h : chkTg Γ tg t = true) : (assignEach [t] env).map (·.2) = [assign t env] := by
  cases tg with
  | nm i => obtain ⟨x, pos, rfl, _⟩ := nmOk_out (h : nmOk Γ i t = true); rfl
  | tup is => unfold chkTg at h; simp only at h; split at h <;> first | rfl | exact absurd h Bool.false_ne_true
theorem locs_len {line : Nat} {env : PySem.Env} {g : Expr → Option Str} (hk : ∀ x, env.kindOf x = Γ.sn.lookup x) (hg : ∀ x p, g (.Name x p) = if (env.kindOf x == some NameKind.local && p.line == line) = true then some x else none) (hg2 : ∀ e, (∀ x p, e ≠ .Name x p) → g e = none) : ∀ {ts : List Expr}, match locs Γ line ts with
    | some xs => ts.filterMap g = xs ∧ xs.length = ts.length
    | none => (ts.filterMap g).length < ts.length
  | [] => ⟨rfl, rfl⟩
  | t :: ts => by
    have ih := locs_len (line := line) (env := env) hk hg hg2 (ts := ts)
    have le : (ts.filterMap g).length ≤ ts.length := List.length_filterMap_le _ _
    by_cases hn : ∃ x p, t = .Name x p
    · obtain ⟨x, p, rfl⟩ := hn
      unfold locs
      by_cases hc : Γ.sn.lookup x = some .local ∧ (p.line == line) = true
      · rw [if_pos hc]
        have hc2 : g (.Name x p) = some x := by rw [hg, hk, hc.1, hc.2]; rfl
        cases hl : locs Γ line ts with
        | none =>
          rw [hl] at ih
          rw [List.filterMap_cons_some hc2]
          exact Nat.succ_lt_succ ih
        | some xs =>
          rw [hl] at ih
          rw [List.filterMap_cons_some hc2]
          exact ⟨by rw [ih.1], by simp [ih.2]⟩
      · rw [if_neg hc]
        have hc2 : g (.Name x p) = none := by
          rw [hg, hk]
          cases h1 : (p.line == line) with
          | false => simp
          | true =>
            have : ¬ Γ.sn.lookup x = some .local := fun z => hc ⟨z, h1⟩
            simp [this]
        show (List.filterMap g _).length < _
        rw [List.filterMap_cons_none hc2]
        exact Nat.lt_succ_of_le le
    · have e1 : locs Γ line (t :: ts) = none := by
        cases t <;> first | exact absurd ⟨_, _, rfl⟩ hn | rfl
      rw [e1]
      show (List.filterMap g _).length < _
      rw [List.filterMap_cons_none (hg2 t fun x p z => hn ⟨x, p, z⟩)]
      exact Nat.lt_succ_of_le le
theorem stores_eq (ts vs : List Expr) (a c : Nat) (b d : Pos) (env : PySem.Env) : ∃ (g : Expr → Option Str) (st : Expr → Bool), (∀ x p, g (.Name x p) = if (env.kindOf x == some NameKind.local && p.line == (ts.head?.map (·.pos.line)).getD 0) = true then some x else none) ∧ (∀ e, (∀ x p, e ≠ .Name x p) → g e = none) ∧ (∀ e, notStar e = true → st e = false) ∧
    swappedStores [.Tuple ts a b] (.Tuple vs c d) env = (if (!(ts.length == 2 || ts.length == 3) || vs.length != ts.length || env.blockKind != .function) = true then pure none else if vs.any st = true then pure none else
      if ((ts.filterMap g).length != ts.length || (ts.filterMap g).eraseDups.length != (ts.filterMap g).length) = true then pure none else if vs.all (foldedForSure 8) = true then pure none else
      if vs.all (constantsAlone 8) = true then (do unsupported "assign.tuple-of-constant-expressions:order-of-the-stores"; pure (some (ts.filterMap g))) else pure (some (ts.filterMap g))) :=
  ⟨fun | .Name id pos => if env.kindOf id == some NameKind.local && pos.line == (ts.head?.map (·.pos.line)).getD 0 then some id else none | _ => none, fun | .Starred .. => true | _ => false, fun _ _ => rfl,
    fun e h => by cases e <;> first | rfl | exact absurd rfl (h _ _), fun e h => by cases e <;> first | rfl | (simp [notStar] at h), rfl⟩
theorem Good.kindOf (G : Good X Z Γ EX) (x : Str) : X.env.kindOf x = Γ.sn.lookup x := by rw [← G.sn]; rfl
theorem Good.blk (G : Good X Z Γ EX) : X.env.blockKind = .function := by unfold PySem.Env.blockKind; rw [G.kind]; rfl
theorem swapNone (G : Good X Z Γ EX) {t e : Expr} (h : noPar Γ t e = true) : swappedStores [t] e X.env = pure none := by
  by_cases ht : ∃ ts a b vs c d, t = .Tuple ts a b ∧ e = .Tuple vs c d
  · obtain ⟨ts, a, b, vs, c, d, rfl, rfl⟩ := ht
    obtain ⟨g, st, hg, hg2, hst, eq⟩ := stores_eq ts vs a c b d X.env
    rw [eq]
    simp only [noPar, Bool.or_eq_true] at h
    by_cases h1 : (!(ts.length == 2 || ts.length == 3) || vs.length != ts.length || X.env.blockKind != ScopeKind.function) = true
    · rw [if_pos h1]
    · rw [if_neg h1]
      by_cases h2 : vs.any st = true
      · rw [if_pos h2]
      · rw [if_neg h2]
        have hl := locs_len (line := (ts.head?.map (·.pos.line)).getD 0) G.kindOf hg hg2 (ts := ts)
        simp only [Bool.or_eq_true, not_or] at h1
        rcases h with (h | h) | h
        · exact absurd h (by rcases h1 with ⟨⟨a1, a2⟩, _⟩; simp only [not_or]; exact ⟨a1, a2⟩)
        · cases hx : locs Γ ((ts.head?.map (·.pos.line)).getD 0) ts with
          | some xs => rw [hx] at h; cases h
          | none =>
            rw [hx] at hl
            rw [if_pos (by simp only [Bool.or_eq_true, bne_iff_ne, ne_eq]; exact .inl (Nat.ne_of_lt hl))]
        · by_cases h3 : ((ts.filterMap g).length != ts.length || (ts.filterMap g).eraseDups.length != (ts.filterMap g).length) = true
          · rw [if_pos h3]
          · rw [if_neg h3, if_pos h]
  · cases t <;> cases e <;> first | rfl | (simp [noPar] at h; done) | exact absurd ⟨_, _, _, _, _, _, rfl, rfl⟩ ht
theorem swapSome (G : Good X Z Γ EX) {ts vs : List Expr} {a c : Nat} {b d : Pos} {xs : List Str} (h1 : (ts.length == 2 || ts.length == 3) = true) (h2 : vs.length = ts.length) (h3 : plainOf vs = true) (h4 : locs Γ ((ts.head?.map (·.pos.line)).getD 0) ts = some xs) (h5 : xs.eraseDups.length = xs.length)
    (h6 : vs.all (foldedForSure 8) = false) (h7 : vs.all (constantsAlone 8) = false) : swappedStores [.Tuple ts a b] (.Tuple vs c d) X.env = pure (some xs) := by
  obtain ⟨g, st, hg, hg2, hst, eq⟩ := stores_eq ts vs a c b d X.env
  rw [eq]
  have hl := locs_len (line := (ts.head?.map (·.pos.line)).getD 0) G.kindOf hg hg2 (ts := ts)
  rw [h4] at hl
  have hs : vs.any st = false := by
    clear h2 h6 h7 eq
    induction vs with
    | nil => rfl
    | cons v vs ih =>
      simp only [plainOf, Bool.and_eq_true] at h3
      simp only [List.any_cons, ih h3.2, hst v h3.1, Bool.or_false]
  rw [if_neg (by rw [h1, G.blk, h2]; simp), if_neg (by rw [hs]; exact Bool.false_ne_true), hl.1, if_neg (by simp [hl.2, h5]), if_neg (by rw [h6]; exact Bool.false_ne_true), if_neg (by rw [h7]; exact Bool.false_ne_true)]
end
end Q

namespace Q
open PySem L2 PySem.Spec
section
variable {X : Cx} {Z : EnvQ} {Γ : Gam} {EX : XK} {M : List Nat} {σ : L2.St} {H : Hp} {F : Addr → Prop} {W : List Addr} {L : Lcs} {ws : List (List Addr)} {Ed : Ends}

theorem sw_false (G : Good X Z Γ EX) {t e : Expr} {l : Nat} (h : noLc Γ t e = true) : swapsWithSole [t] e l X.env = pure false := by
  show swapsWith e (some t) l X.env = pure false
  by_cases hl : notLC e = true
  · exact noSwap hl
  · cases e with
    | SetComp _ _ _ _ => exact absurd h (by cases t <;> simp [noLc, notLC])
    | DictComp _ _ _ _ _ => exact absurd h (by cases t <;> simp [noLc, notLC])
    | ListComp elt gs scope pos =>
      cases t with
      | Name x p =>
        simp only [noLc, Bool.or_eq_true, Bool.not_eq_true', decide_eq_false_iff_not] at h
        have e1 : (X.env.kindOf x == some NameKind.local) = decide (Γ.sn.lookup x = some .local) := by
          rw [G.kindOf]
          by_cases hx : Γ.sn.lookup x = some .local
          · rw [hx]; rfl
          · rw [beq_eq_false_iff_ne.mpr hx]; simp [hx]
        show (pure (X.env.blockKind == .function && X.env.kindOf x == some .local && p.line == pos.line && !(scope.names.any fun (n, k) => n == x && (k == .local || k == .cell))) : Sem Bool) = pure false
        congr 1
        rw [e1, G.blk]
        rcases h with (h | h) | h
        · simp [h]
        · rw [h]; simp
        · rw [h]; simp
      | _ => rfl
    | _ => exact absurd rfl hl

theorem swLc_out {t e : Expr} (h : swLc Γ t e = true) : ∃ x p elt gs scope pos, t = .Name x p ∧ e = .ListComp elt gs scope pos ∧ Γ.sn.lookup x = some .local ∧ (p.line == pos.line) = true ∧ (scope.names.any fun (n, k) => n == x && (k == .local || k == .cell)) = false := by
  cases t <;> cases e <;> first | (simp [swLc] at h; done) | skip
  rename_i x p elt gs scope pos
  have h : (decide (Γ.sn.lookup x = some .local) && (p.line == pos.line) && !(scope.names.any fun (n, k) => n == x && (k == .local || k == .cell))) = true := h
  simp only [Bool.and_eq_true, decide_eq_true_eq, Bool.not_eq_true'] at h
  exact ⟨x, p, elt, gs, scope, pos, rfl, rfl, h.1.1, h.1.2, h.2⟩
theorem asg_S {tg : Tg} {e : E} (ih : SE e) : SS (.asg tg e) := by
  intro X Z Γ EX G po M st h L σ ws H F Ed l w q
  simp only [chkS] at h
  split at h <;> try (exact absurd h Bool.false_ne_true)
  rename_i t v pos
  simp only [Bool.and_eq_true, Bool.or_eq_true] at h
  obtain ⟨⟨⟨⟨htg, hM⟩, hv⟩, hnp⟩, hsw⟩ := h
  rw [run_asg] at q
  by_cases hl : noLc Γ t v = true
  · refine toS (ps_asg peW pgW (sw_false G hl) (swapNone G hnp) (each1 htg)) ?_
    exact (ih G hv l w).1.useS q fun d L1 x H1 h1 p => asg_tgt G htg hM h1 p
  · replace hsw := hsw.resolve_left hl
    obtain ⟨hsw, hlc⟩ := hsw
    cases e <;> simp only [isLc, Bool.false_eq_true] at hlc
    rename_i vs tg2 sc cs c
    obtain ⟨x, px, elt, gs, scope, lpos, rfl, rfl, h1, h2, h3⟩ := swLc_out hsw
    have ic : SE (.lc vs tg2 sc cs c) := ih
    have hgs : ∃ tgt iter ifs as, gs = [⟨tgt, iter, ifs, as⟩] := by
      cases gs with
      | nil => simp [chkE] at hv
      | cons g gs =>
        cases gs with
        | cons _ _ => simp [chkE] at hv
        | nil => obtain ⟨tgt, iter, ifs, as⟩ := g; exact ⟨_, _, _, _, rfl⟩
    obtain ⟨tgt, iter, ifs, as, rfl⟩ := hgs
    simp only [chkE, Bool.and_eq_true, decide_eq_true_eq] at hv
    obtain ⟨⟨⟨⟨⟨⟨⟨⟨⟨rfl, hns⟩, hb⟩, htg2⟩, hsl⟩, hsrc⟩, hcs⟩, hln⟩, hcn⟩, helt⟩ := hv
    have hb' := hb
    simp only [blkGood, Bool.and_eq_true, decide_eq_true_eq] at hb'
    have ok : BlkOk X.N X.env.scope scope (ownOf Γ vs) := by
      have := blkOk_by hb'.1.1
      refine ⟨this.kind, this.uniq, by rw [G.N]; exact this.ix, fun y hy e => ?_, by rw [G.N]; exact this.own⟩
      rw [G.sn]; exact this.free y hy e
    have hs : ∀ x, foldedSetIterable iter X.env x = pure x := fun x => by
      cases iter <;> first | rfl | (simp [notSet] at hns)
    have own2 : (ownOf Γ vs).map (·.2) = vs := by
      unfold ownOf
      rw [List.map_map]
      exact List.map_id vs
    have hnm : ∃ i, tg = .nm i ∧ Γ.N[i]? = some x := by
      cases tg with
      | nm i =>
        have htg' : nmOk Γ i (.Name x px) = true := by simpa only [chkTg] using htg
        obtain ⟨y, py, e1, e2, _⟩ := nmOk_out htg'
        cases e1; exact ⟨i, rfl, e2⟩
      | tup is => simp [chkTg] at htg
    obtain ⟨i, rfl, hi⟩ := hnm
    refine toS (ps_setLc (i := i) (own := ownOf Γ vs) (wi := tiW X tgt iter) (g := gB X scope tgt) (tt := tB X scope ifs) (te := eB X scope elt) G.calm (by rw [G.N]; exact G.nd) (by rw [G.N]; exact hi) (by rw [G.sn]; exact h1)
      (sw_true G.kind (by rw [G.sn]; exact h1) h2 h3) piW ok pgB ptsB peB hs) ?_
    rw [own2]
    refine lc_T G (soundSrc sc) (soundCn cs) (soundE c) hb htg2 (fun i m => by simpa using List.all_eq_true.mp hsl i m) hsrc hcs hln hcn helt l w (Q := fun v H1 => Ed.nx (σ.set i (some v)) H1) ?_
    revert q
    generalize den Z (.lc vs tg2 sc cs c) L = r
    intro q
    cases r with
    | exn c x => exact q
    | bad => exact q
    | ok a =>
      obtain ⟨d, L1⟩ := a
      intro v H1 p
      have q : AfterS X.K X.mg EX H F ws.flatten M σ (RS.of ((Tg.nm i).set d L1)) Ed := q
      obtain ⟨L2, e1, q⟩ := q.of
      simp only [Tg.set, Option.some.injEq] at e1
      subst e1
      obtain ⟨F1, W1, ws1, r1, l1, w1, x1⟩ := p
      obtain ⟨l2, w2, m2⟩ := store_one (i := i) (W2 := []) l1 r1 (by simpa using w1)
      exact q _ _ ⟨F1, _, l2, by simpa using w2, x1.sub fun a m => List.mem_append.mpr (m2 a m), fun j hj => by
        rw [List.getElem?_set_ne]
        intro z
        have := mOut hM j hj
        exact this (by rw [← z]; exact List.mem_cons_self)⟩

theorem par_S {is : List Nat} {es : Es} (ih : SEs es) : SS (.par is es) := by
  intro X Z Γ EX G po M st h L σ ws H F Ed l w q
  simp only [chkS] at h
  split at h <;> try (exact absurd h Bool.false_ne_true)
  rename_i ts a b vs c d pos
  simp only [Bool.and_eq_true, decide_eq_true_eq, Bool.not_eq_true'] at h
  obtain ⟨⟨⟨⟨⟨⟨⟨⟨⟨hn, hp⟩, hes⟩, hM⟩, nd⟩, hlocs⟩, hlen⟩, h23⟩, h6⟩, h7⟩ := h
  split at hlocs <;> try (exact absurd hlocs Bool.false_ne_true)
  rename_i xs hx
  simp only [decide_eq_true_eq] at hlocs
  have sw := swapSome (a := a) (c := c) (b := b) (d := d) G h23 hlen hp hx hlocs h6 h7
  rw [run_par] at q
  have key : ∀ us H1 ds L1, AfterS X.K X.mg EX H F ws.flatten M σ (RS.of (setAllO is ds L1)) Ed → PostVs X.K H F ws.flatten σ ds L1 us H1 → us.length = is.length ∧ Ed.nx (setAll σ is us) H1 := by
    intro us H1 ds L1 h1 p
    obtain ⟨L2, e1, h2⟩ := h1.of
    unfold setAllO at e1
    split at e1 <;> simp only [Option.some.injEq, reduceCtorEq] at e1
    rename_i hl
    subst e1
    rw [foldl_setAll] at h2
    obtain ⟨F1, W1, ws1, r1, l1, w1, x1⟩ := p
    obtain ⟨ws', l2, w2, m2⟩ := store_all (W2 := []) hl l1 r1 (by simpa using w1)
    refine ⟨by rw [← r1.length, hl], h2 _ _ ⟨F1, ws', l2, by simpa using w2, x1.sub fun a m => List.mem_append.mpr (m2 a m), fun i hi => setAll_out (mOut hM i hi)⟩⟩
  have ga := (ih G hp hes l w).1
  cases is with
  | nil => cases ts <;> simp [nmsOk] at hn; simp at h23
  | cons i is =>
    cases ts with
    | nil => simp at h23
    | cons t ts =>
      simp only [nmsOk, Bool.and_eq_true] at hn
      obtain ⟨x, px, rfl, hxi, _⟩ := nmOk_out hn.1
      cases is with
      | nil => cases ts <;> simp [nmsOk] at hn; simp at h23
      | cons j is =>
        cases ts with
        | nil => simp [nmsOk] at hn
        | cons t2 ts =>
          simp only [nmsOk, Bool.and_eq_true] at hn
          obtain ⟨y, py, rfl, hyj, _⟩ := nmOk_out hn.2.1
          have hij : i ≠ j := by
            have := (List.nodup_cons.mp nd).1
            intro z; exact this (by rw [z]; exact List.mem_cons_self)
          cases is with
          | nil =>
            cases ts with
            | cons _ _ => simp [nmsOk] at hn
            | nil =>
              obtain ⟨u, hu⟩ : ∃ u z, vs = [u, z] := by
                cases vs with
                | nil => simp at hlen
                | cons u vs => cases vs with
                  | nil => simp at hlen
                  | cons z vs => cases vs with
                    | nil => exact ⟨u, z, rfl⟩
                    | cons _ _ => simp at hlen
              obtain ⟨z, rfl⟩ := hu
              simp only [locs] at hx
              split at hx <;> try (simp at hx; done)
              rename_i hc1
              split at hx <;> try (simp at hx; done)
              rename_i r hr
              split at hr <;> try (simp at hr; done)
              rename_i hc2
              simp only [Option.some.injEq] at hr hx
              subst hr; subst hx
              refine toS (ps_par (i := i) (j := j) G.calm (by rw [G.N]; exact G.nd) (by rw [G.N]; exact hxi) (by rw [G.N]; exact hyj) hij (by rw [G.sn]; exact hc1.1) (by rw [G.sn]; exact hc2.1) paW sw) ?_
              refine ga.useS q fun ds L1 us H1 h1 p => ?_
              obtain ⟨e1, e2⟩ := key us H1 ds L1 h1 p
              cases us with
              | nil => simp at e1
              | cons u1 us => cases us with
                | nil => simp at e1
                | cons u2 us => cases us with
                  | nil => exact ⟨u1, u2, rfl, e2⟩
                  | cons _ _ => simp at e1
          | cons k is =>
            cases ts with
            | nil => simp [nmsOk] at hn
            | cons t3 ts =>
              simp only [nmsOk, Bool.and_eq_true] at hn
              obtain ⟨zz, pz, rfl, hzk, _⟩ := nmOk_out hn.2.2.1
              cases ts with
              | cons _ _ => simp at h23
              | nil =>
                cases is with
                | cons _ _ => simp [nmsOk] at hn
                | nil =>
                  obtain ⟨u, u', u'', rfl⟩ : ∃ u u' u'', vs = [u, u', u''] := by
                    cases vs with
                    | nil => simp at hlen
                    | cons u vs => cases vs with
                      | nil => simp at hlen
                      | cons z vs => cases vs with
                        | nil => simp at hlen
                        | cons z2 vs => cases vs with
                          | nil => exact ⟨u, z, z2, rfl⟩
                          | cons _ _ => simp at hlen
                  simp only [locs] at hx
                  split at hx <;> try (simp at hx; done)
                  rename_i hc1
                  split at hx <;> try (simp at hx; done)
                  rename_i r hr
                  split at hr <;> try (simp at hr; done)
                  rename_i hc2
                  split at hr <;> try (simp at hr; done)
                  rename_i r2 hr2
                  split at hr2 <;> try (simp at hr2; done)
                  rename_i hc3
                  simp only [Option.some.injEq] at hr2 hr hx
                  subst hr2; subst hr; subst hx
                  have nd3 : i ≠ k ∧ j ≠ k := by
                    simp only [List.nodup_cons, List.mem_cons, not_or] at nd
                    exact ⟨nd.1.2.1, nd.2.1.1⟩
                  refine toS (ps_par3 (i := i) (j := j) (l := k) G.calm (by rw [G.N]; exact G.nd) (by rw [G.N]; exact hxi) (by rw [G.N]; exact hyj) (by rw [G.N]; exact hzk) hij nd3.1 nd3.2 (by rw [G.sn]; exact hc1.1) (by rw [G.sn]; exact hc2.1) (by rw [G.sn]; exact hc3.1) paW sw) ?_
                  refine ga.useS q fun ds L1 us H1 h1 p => ?_
                  obtain ⟨e1, e2⟩ := key us H1 ds L1 h1 p
                  cases us with
                  | nil => simp at e1
                  | cons u1 us => cases us with
                    | nil => simp at e1
                    | cons u2 us => cases us with
                      | nil => simp at e1
                      | cons u3 us => cases us with
                        | nil => exact ⟨u1, u2, u3, rfl, e2⟩
                        | cons _ _ => simp at e1
end
end Q

namespace Q
open PySem L2 PySem.Spec
section
variable {X : Cx} {Z : EnvQ} {Γ : Gam} {EX : XK} {M : List Nat} {σ : L2.St} {H : Hp} {F : Addr → Prop} {W : List Addr} {L : Lcs} {ws : List (List Addr)} {Ed : Ends}

theorem setxRun_out {G : Str → Option D} {i : Nat} {path : List P} {k : P} {x : D} {L' : Lcs} (h : setxRun G i path k x L = some L') :
    ∃ d is j d', L[i]? = some (some d) ∧ pathInts G L path = some is ∧ pur G k L = some (.int j) ∧ updPath (fun ds => match ixN ds.length j with | some n => some (ds.set n x) | none => none) d is = some d' ∧ L' = L.set i (some d') := by
  unfold setxRun at h
  split at h <;> try (cases h)
  rename_i d is j e1 e2 e3
  split at h <;> try (cases h)
  rename_i d' e4
  exact ⟨d, is, j, d', e1, e2, e3, e4, rfl⟩
theorem upd_at {f : List D → Option (List D)} : ∀ {is : List Int} {d d' : D}, updPath f d is = some d' → ∃ ds es, atPath d is = some (.lst true ds) ∧ f ds = some es
  | [], d, d', h => by
    unfold updPath at h
    split at h
    · rename_i ds hh
      split at h <;> try (cases h)
      rename_i es e
      exact ⟨ds, es, rfl, e⟩
    · rename_i hh; exact absurd hh (fun z => nomatch z)
    · cases h
  | i :: is, d, d', h => by
    unfold updPath at h
    split at h
    · rename_i hh; exact absurd hh (fun z => nomatch z)
    · rename_i ds i' r hh
      cases hh
      split at h <;> try (cases h)
      rename_i j ej
      split at h <;> try (cases h)
      rename_i d1 e1
      split at h <;> try (cases h)
      rename_i d2 e2
      obtain ⟨ds2, es, h1, h2⟩ := upd_at e2
      refine ⟨ds2, es, ?_, h2⟩
      have : atI ds i = some d1 := by unfold atI; rw [ej]; exact e1
      simp only [atPath, this, h1]
    · cases h

theorem setx_S {i : Nat} {path : List P} {k : P} {e : E} (ih : SE e) : SS (.setx i path k e) := by
  intro X Z Γ EX G po M st h L σ ws H F Ed l w q
  simp only [chkS] at h
  split at h <;> try (exact absurd h Bool.false_ne_true)
  rename_i o y opos v pos
  simp only [Bool.and_eq_true] at h
  obtain ⟨⟨⟨⟨⟨hp, hk⟩, hns⟩, hv⟩, hnl⟩, hnt⟩ := h
  rw [run_setx] at q
  have e0 : noLc Γ (.Subscript o y opos) v = true := by
    have : noLc Γ (.Subscript o y opos) v = notLC v := by cases v <;> rfl
    rw [this]; exact hnl
  refine toS (ps_asg peW (pg_sub peW peW set_list (by intro v; cases y <;> first | rfl | (simp [notSlice] at hns))) (sw_false G e0) (by cases v <;> first | rfl | (simp [notTup] at hnt)) (by rfl)) ?_
  refine (ih G hv l w).1.useS q fun d L1 x H1 h1 p => ?_
  obtain ⟨L2, er, h2⟩ := h1.of
  obtain ⟨d0, is, j, d', e1, e2, e3, e4, rfl⟩ := setxRun_out er
  obtain ⟨F1, W1, ws1, r1, l1, w1, x1⟩ := p
  obtain ⟨ds, es, ea, ef⟩ := upd_at e4
  obtain ⟨v0, a, us, _, _, s1, pw, s3, _⟩ := slot_upd l1 e1 w1 ea
  refine path_E G hp l1 s1 (by rw [List.reverse_reverse]; exact e2) pw fun H2 k2 => ?_
  refine (soundP G k y hk (k2.lreps l1) e3).1 fun u H3 pv => ?_
  obtain ⟨Wu, ru, _, _⟩ := pv.ex
  have kk : KA H1 H3 := k2.trans pv.ka
  obtain ⟨v2, a2, us2, Wi, W', s1', pw', s3', r4, p4, p6, p7, p8, p9⟩ := slot_upd (W0 := W1) (kk.lreps l1) e1 (kk.wf w1) ea
  rw [s1] at s1'; cases s1'
  have eaa := (pw.ka kk).inj pw'
  cases eaa
  split at ef <;> try (cases ef)
  rename_i n en
  have hl := r4.length
  obtain ⟨t1, t2, t3, t4⟩ := ixN_seq en
  have eg : ds[n]? = some ds[n] := by simp [t2]
  obtain ⟨vn, Wa, Wd, Wb, h1', rfl, ra, rd, rb⟩ := r4.split3 eg
  have rx := kk.reps r1
  have rj := Reps.join3 ra rx rb t2 hl
  have na : a ∉ Wa ++ (W1 ++ Wb) := fun z => by
    rcases List.mem_append.mp z with z | z
    · exact p8 (List.mem_append_left _ z)
    · rcases List.mem_append.mp z with z | z
      · exact p7 z
      · exact p8 (List.mem_append_right _ (List.mem_append_right _ z))
  obtain ⟨ws', q1, q2, q3⟩ := p9 (fun ds => match ixN ds.length j with | some n => some (ds.set n d) | none => none) (us2.set n x) (ds.set n d) d' (Wa ++ (W1 ++ Wb)) [] Wd (by simp only [en]) e4 (frame1 s3' rj na p6) (by
    refine List.perm_iff_count.mpr fun c => ?_
    simp only [List.count_append, List.count_nil]
    omega)
  exact ⟨a, us2, j, n, rfl, ru.intI, s3', by rw [← hl]; exact en, h2 _ _ ⟨F1, ws', q1, by simpa using q2, x1.trans (kk.ext.trans (by simpa using q3)), fun _ _ => rfl⟩⟩

theorem setKRun_out {i : Nat} {kd x : D} {L' : Lcs} (h : setKRun i kd x L = some L') : ∃ ds j n, L[i]? = some (some (.lst true ds)) ∧ kd = .int j ∧ ixN ds.length j = some n ∧ L' = L.set i (some (.lst true (ds.set n x))) := by
  unfold setKRun at h
  split at h
  · rename_i ds j e1
    split at h
    · rename_i n e2
      cases h
      exact ⟨ds, j, n, e1, rfl, e2, rfl⟩
    · cases h
  · cases h
theorem setE_S {i : Nat} {k e : E} (ihk : SE k) (ih : SE e) : SS (.setE i k e) := by
  intro X Z Γ EX G po M st h L σ ws H F Ed l w q
  simp only [chkS] at h
  split at h <;> try (exact absurd h Bool.false_ne_true)
  rename_i o y opos v pos
  simp only [Bool.and_eq_true] at h
  obtain ⟨⟨⟨⟨⟨hp, hk⟩, hns⟩, hv⟩, hnl⟩, hnt⟩ := h
  rw [run_setE] at q
  have e0 : noLc Γ (.Subscript o y opos) v = true := by
    have : noLc Γ (.Subscript o y opos) v = notLC v := by cases v <;> rfl
    rw [this]; exact hnl
  refine toS (ps_asg peW (pg_sub peW peW set_list (by intro v; cases y <;> first | rfl | (simp [notSlice] at hns))) (sw_false G e0) (by cases v <;> first | rfl | (simp [notTup] at hnt)) (by rfl)) ?_
  refine (ih G hv l w).1.useS q fun d L1 x H1 h1 p => ?_
  obtain ⟨_, el, h1⟩ := h1.ofB
  obtain ⟨F1, W1, ws1, r1, l1, w1, x1⟩ := p
  unfold lstAt at el
  split at el <;> try (cases el)
  rename_i ds0 hd0
  have hd0 : L1[i]? = some (some (.lst true ds0)) := hd0
  obtain ⟨v0, s1, r0, _⟩ := l1.get hd0
  obtain ⟨a, us0, W0, rfl, s3, _⟩ := r0.lstI
  refine path_E G (ps := []) hp l1 s1 rfl .nil fun H2 k2 => ?_
  have l2 := k2.lreps l1
  have w2 := k2.wf w1
  have r2 := k2.reps r1
  refine (ihk G hk l2 w2.right).1 _ ?_
  have h3 : AfterS X.K X.mg EX H F ws.flatten M σ ((den Z k L1).seq fun q => RS.of (setKRun i q.1 d q.2)) Ed := h1
  clear h1
  revert h3
  generalize den Z k L1 = rk
  intro h3
  cases rk with
  | bad => exact h3
  | exn c xx => exact fun cls dd H' F' ee y => h3 cls dd H' F' ee ((x1.trans k2.ext).trans (y.wid fun c m => List.mem_append_right _ m))
  | ok pr =>
  obtain ⟨kd, L2⟩ := pr
  intro u H3 p3
  have h3 : AfterS X.K X.mg EX H F ws.flatten M σ (RS.of (setKRun i kd d L2)) Ed := h3
  obtain ⟨L3, er, h4⟩ := h3.of
  obtain ⟨F3, W3, ws3, r3, l3, w3, x3⟩ := p3
  obtain ⟨ds, j, n, hd3, rfl, en, rfl⟩ := setKRun_out er
  obtain ⟨r5, w5, x5⟩ := aside r2 l2.muts w2 (x3.sub fun c m => List.mem_append_right _ m) w3.right
  obtain ⟨v2, a2, us2, Wi, W', s1', pw', s3', r4, p4, p6, p7, p8, p9⟩ := slot_upd (W0 := W1) (is := []) l3 hd3 w5 rfl
  rw [s1] at s1'; cases s1'
  cases pw'
  have hl := r4.length
  obtain ⟨t1, t2, t3, t4⟩ := ixN_seq en
  have eg : ds[n]? = some ds[n] := by simp [t2]
  obtain ⟨vn, Wa, Wd, Wb, h1', rfl, ra, rd, rb⟩ := r4.split3 eg
  have rj := Reps.join3 ra r5 rb t2 hl
  have na : a ∉ Wa ++ (W1 ++ Wb) := fun z => by
    rcases List.mem_append.mp z with z | z
    · exact p8 (List.mem_append_left _ z)
    · rcases List.mem_append.mp z with z | z
      · exact p7 z
      · exact p8 (List.mem_append_right _ (List.mem_append_right _ z))
  obtain ⟨ws', q1, q2, q3⟩ := p9 (fun ds => match ixN ds.length j with | some n => some (ds.set n d) | none => none) (us2.set n x) (ds.set n d) (.lst true (ds.set n d)) (Wa ++ (W1 ++ Wb)) [] Wd (by simp only [en]) (by simp only [updPath, en]) (frame1 s3' rj na p6) (by
    refine List.perm_iff_count.mpr fun c => ?_
    simp only [List.count_append, List.count_nil]
    omega)
  refine ⟨a, us2, j, n, rfl, r3.intI, s3', by rw [← hl]; exact en, ?_⟩
  exact h4 _ _ ⟨F3, ws', q1, by simpa using q2, (x1.trans k2.ext).trans (x5.trans (by simpa using q3)), fun _ _ => rfl⟩

theorem ex_S {e : E} (ih : SE e) : SS (.ex e) := by
  intro X Z Γ EX G po M st h L σ ws H F Ed l w q
  simp only [chkS] at h
  split at h <;> try (exact absurd h Bool.false_ne_true)
  simp only [Bool.and_eq_true] at h
  rw [run_ex] at q
  refine toS (ps_expr peW (noSwap h.2)) ?_
  refine (ih G h.1 l w).1.useS q fun d L1 x H1 h1 p => ?_
  obtain ⟨F1, W1, ws1, r1, l1, w1, x1⟩ := p
  exact h1 _ _ ⟨F1, ws1, l1, w1.right, x1.sub fun a m => List.mem_append_right _ m, fun _ _ => rfl⟩

theorem appRun_out {G : Str → Option D} {i : Nat} {path : List P} {x : D} {L' : Lcs} (h : appRun G i path x L = some L') :
    ∃ d is d', L[i]? = some (some d) ∧ pathInts G L path = some is ∧ updPath (appF x) d is = some d' ∧ L' = L.set i (some d') := by
  unfold appRun at h
  split at h <;> try (cases h)
  rename_i d is e1 e2
  split at h <;> try (cases h)
  rename_i d' e4
  exact ⟨d, is, d', e1, e2, e4, rfl⟩
/-- a thing put behind the list -/
theorem app_post {K : PySem.W.Frag} {i : Nat} {d d' x : D} {u : V} {is : List Int} {W1 : List Addr} (l : LReps K H F L σ ws) (w : Wf H F (W1 ++ ws.flatten)) (r : Reps K H F [x] [u] W1) (e1 : L[i]? = some (some d)) (e4 : updPath (appF x) d is = some d') :
    ∃ v a us, σ[i]? = some (some v) ∧ PathW H v is (.ref a) ∧ H a = some (.lst us) ∧ us.length < sizeLine ∧ ∃ ws', LReps K (upd H a (.lst (us ++ [u]))) F (L.set i (some d')) σ ws' ∧ Wf (upd H a (.lst (us ++ [u]))) F ws'.flatten ∧ Ext H F (W1 ++ ws.flatten) (upd H a (.lst (us ++ [u]))) F ws'.flatten := by
  obtain ⟨ds, es, ea, ef⟩ := upd_at e4
  obtain ⟨v, a, us, Wi, W', p1, p2, p3, p4, p5, p6, p7, p8, p9⟩ := slot_upd l e1 w ea
  have na : a ∉ Wi ++ W1 := fun z => (List.mem_append.mp z).elim p8 p7
  have hlt : ds.length < 1000000 := by
    unfold appF at ef
    split at ef
    · assumption
    · cases ef
  obtain ⟨ws', q1, q2, q3⟩ := p9 (appF x) (us ++ [u]) (ds ++ [x]) d' (Wi ++ W1) [] [] (by unfold appF; rw [if_pos hlt]) e4 (frame1 p3 (p4.append r) na p6) (by
    refine List.perm_iff_count.mpr fun c => ?_
    simp only [List.count_append, List.count_nil]
    omega)
  exact ⟨v, a, us, p1, p2, p3, by rw [← p4.length, sizeLine_eq]; omega, ws', q1, by simpa using q2, by simpa using q3⟩
theorem app_go {i : Nat} {path : List P} {o y : Expr} {apos cpos pos : Pos} (G : Good X Z Γ EX) (hline : (apos.endLine == cpos.line) = true) (hp : chkPath Γ i path.reverse o = true) (ns : notStar y = true) {is : List Int} {v : V} {a : Addr} {us : List V}
    (l : LReps X.K H F L σ ws) (s1 : σ[i]? = some (some v)) (e2 : pathInts Z.G L path = some is) (pw : PathW H v is (.ref a)) (s3 : H a = some (.lst us))
    (q : ∀ H1, KA H H1 → tW X y σ H1 fun x H2 => rAppend (.ref a) [x] H2 fun _ H3 => Ed.nx σ H3) : tsW X (.Expr (.Call (.Attribute o (Str.ofString "append") apos) [y] [] cpos) pos) Ed σ H := by
  refine toS (ps_expr (pe_bm PySem.F.plainAttrs_list PySem.F.slot_list_append PySem.F.type_list_append mt_append peW (pa_cons peW pa_nil (starEach_of ns)) (attrBase hp) (few1 ns) hline (starEach_of ns) rfl) rfl) ?_
  refine path_E G hp l s1 (by rw [List.reverse_reverse]; exact e2) pw fun H1 k1 => ⟨.inl ⟨rfl, us, .inl (.inl (k1 _ _ s3))⟩, ?_⟩
  exact q H1 k1
theorem app_S {i : Nat} {path : List P} {e : E} (ih : SE e) : SS (.app i path e) := by
  intro X Z Γ EX G po M st h L σ ws H F Ed l w q
  simp only [chkS] at h
  split at h <;> try (exact absurd h Bool.false_ne_true)
  split at h <;> try (exact absurd h Bool.false_ne_true)
  rename_i o nm apos cpos pos _ y
  simp only [Bool.and_eq_true, decide_eq_true_eq] at h
  obtain ⟨⟨⟨⟨rfl, hline⟩, hp⟩, ns⟩, hy⟩ := h
  cases path with
  | nil =>
    rw [run_app0] at q
    obtain ⟨_, el, q⟩ := q.ofB
    unfold lstAt at el
    split at el <;> try (cases el)
    rename_i ds0 hd0
    obtain ⟨v, s1, r0, _⟩ := l.get hd0
    obtain ⟨a, us0, W0, rfl, s3, _⟩ := r0.lstI
    refine app_go G hline hp ns l s1 rfl .nil s3 fun H1 k1 => ?_
    have gc := (ih G hy (k1.lreps l) (k1.wf w)).1
    have q' := q.step (k1.ext (F := F) (W := ws.flatten)) (W2 := ws.flatten) (σ1 := σ) (fun _ m => m) fun _ _ => rfl
    refine (tW.len (gc.useS (R := fun x H2 => ∃ d L1, AfterS X.K X.mg EX H1 F ws.flatten M σ (RS.of (appRun Z.G i [] d L1)) Ed ∧ PostVs X.K H1 F ws.flatten σ [d] L1 [x] H2) q' fun d L1 x H2 h1 pv => ⟨d, L1, h1, pv⟩)).mono fun x H2 ⟨⟨d, L1, h1, pv⟩, lo⟩ => ?_
    obtain ⟨F1, W1, ws1, r1, l1, w1, x1⟩ := pv
    obtain ⟨L2, er, h2⟩ := h1.of
    obtain ⟨d0, is, d', e1, e2, e4, rfl⟩ := appRun_out er
    simp only [pathInts, Option.some.injEq] at e2
    subst e2
    obtain ⟨v2, a2, us2, s1', pw', s3', hlt, ws', q1, q2, q3⟩ := app_post l1 w1 r1 e1 e4
    rw [s1] at s1'; cases s1'
    cases pw'
    exact ⟨a, us2, x, rfl, rfl, s3', hlt, h2 _ _ ⟨F1, ws', q1, q2, x1.trans q3, fun _ _ => rfl⟩⟩
  | cons p ps =>
    rw [run_app1] at q
    obtain ⟨d, ed, q⟩ := q.ofB
    unfold noOwnOf at ed
    split at ed <;> try (cases ed)
    rename_i d1 ed1
    split at ed <;> simp only [Option.some.injEq, reduceCtorEq] at ed
    rename_i hno
    subst ed
    obtain ⟨L2, er, h2⟩ := q.of
    obtain ⟨d0, is, d', e1, e2, e4, rfl⟩ := appRun_out er
    obtain ⟨ds, es, ea, ef⟩ := upd_at e4
    obtain ⟨v, a, us, _, _, s1, pw, s3, _⟩ := slot_upd (W0 := []) l e1 (by simpa using w) ea
    refine app_go G hline hp ns l s1 e2 pw s3 fun H1 k1 => ?_
    cases e with
    | p p0 =>
      simp only [purE] at ed1
      refine (tW.len ((soundP G p0 y (by simpa [chkE] using hy) (k1.lreps l) ed1).1 (Q := fun v H' => PV X.K H1 F ws p0 d1 v H') fun _ _ pv => pv)).mono fun u0 H2 ⟨pv, lo⟩ => ?_
      obtain ⟨W1, r, m1, m2⟩ := pv.ex
      have e0 := r.noOwn (by simpa [D.noOwns] using hno)
      subst e0
      have kk : KA H H2 := k1.trans pv.ka
      obtain ⟨v2, a2, us2, s1', pw', s3', hlt, ws', q1, q2, q3⟩ := app_post (W1 := []) (kk.lreps l) (by simpa using kk.wf w) r e1 e4
      rw [s1] at s1'; cases s1'
      have eaa := (pw.ka kk).inj pw'
      cases eaa
      exact ⟨_, us2, u0, rfl, rfl, s3', hlt, h2 _ _ ⟨F, ws', q1, q2, kk.ext.trans (by simpa using q3), fun _ _ => rfl⟩⟩
    | _ => simp [purE] at ed1

theorem extRun_out {i : Nat} {x : D} {L' : Lcs} (h : extRun i x L = some L') : ∃ ds o es, L[i]? = some (some (.lst true ds)) ∧ x = .lst o es ∧ ds.length + es.length ≤ 1000000 ∧ L' = L.set i (some (.lst true (ds ++ es))) := by
  unfold extRun at h
  split at h
  · rename_i h1
    split at h <;> simp only [Option.some.injEq, reduceCtorEq] at h
    rename_i h2
    exact ⟨_, _, _, h1, rfl, h2, h.symm⟩
  · cases h
theorem ext_S {i : Nat} {e : E} (ih : SE e) : SS (.ext i e) := by
  intro X Z Γ EX G po M st h L σ ws H F Ed l w q
  simp only [chkS] at h
  split at h <;> try (exact absurd h Bool.false_ne_true)
  split at h <;> try (exact absurd h Bool.false_ne_true)
  rename_i o nm apos cpos pos _ y
  simp only [Bool.and_eq_true, decide_eq_true_eq] at h
  obtain ⟨⟨⟨⟨rfl, hline⟩, hp⟩, ns⟩, hy⟩ := h
  rw [run_ext] at q
  obtain ⟨_, el, q⟩ := q.ofB
  unfold lstAt at el
  split at el <;> try (cases el)
  rename_i ds0 hd0
  obtain ⟨v, s1, r0, _⟩ := l.get hd0
  obtain ⟨a, us0, W0, rfl, s3, _⟩ := r0.lstI
  refine toS (ps_expr (pe_bm PySem.F.plainAttrs_list PySem.F.slot_list_extend PySem.F.type_list_extend mt_extend peW (pa_cons peW pa_nil (starEach_of ns)) (attrBase hp) (few1 ns) hline (starEach_of ns) rfl) rfl) ?_
  refine path_E G hp l s1 (is := []) rfl .nil fun H1 k1 => ⟨.inl ⟨rfl, us0, .inl (.inl (k1 _ _ s3))⟩, ?_⟩
  have gc := (ih G hy (k1.lreps l) (k1.wf w)).1
  have q' := q.step (k1.ext (F := F) (W := ws.flatten)) (W2 := ws.flatten) (σ1 := σ) (fun _ m => m) fun _ _ => rfl
  refine gc.useS q' fun d L1 x H2 h1 pv => ?_
  obtain ⟨F1, W1, ws1, r1, l1, w1, x1⟩ := pv
  obtain ⟨L2, er, h2⟩ := h1.of
  obtain ⟨ds, o2, es, e1, rfl, hlen, rfl⟩ := extRun_out (show extRun i d L1 = some L2 from er)
  obtain ⟨b, zs, Wz, rfl, sz, rz, sbz, _⟩ := r1.lstI
  have w2 : Wf H2 F1 (Wz ++ ws1.flatten) := w1.sub (List.Sublist.append sbz (List.Sublist.refl _))
  obtain ⟨v2, a2, us2, Wi, W', s1', pw', s3', r4, p4, p6, p7, p8, p9⟩ := slot_upd (is := []) (ds := ds) l1 e1 w2 rfl
  rw [s1] at s1'; cases s1'
  cases pw'
  have na : a ∉ Wi ++ Wz := fun z => (List.mem_append.mp z).elim p8 p7
  obtain ⟨ws', q1, q2, q3⟩ := p9 (fun ds => some (ds ++ es)) (us2 ++ zs) (ds ++ es) (.lst true (ds ++ es)) (Wi ++ Wz) [] [] rfl rfl (frame1 s3' (r4.append rz) na p6) (by
    refine List.perm_iff_count.mpr fun c => ?_
    simp only [List.count_append, List.count_nil]
    omega)
  have hl1 := r4.length
  have hl2 := rz.length
  refine ⟨a, b, us2, zs, rfl, rfl, s3', sz, by rw [sizeLine_eq]; omega, h2 _ _ ⟨F1, ws', q1, by simpa using q2, ?_, fun _ _ => rfl⟩⟩
  exact (x1.sub fun c m => (List.Sublist.append sbz (List.Sublist.refl _)).subset m).trans (by simpa using q3)

theorem ifs_S {c : E} {a b : Ss} (ihc : SE c) (iha : SSs a) (ihb : SSs b) : SS (.ifs c a b) := by
  intro X Z Γ EX G po M st h L σ ws H F Ed l w q
  simp only [chkS] at h
  split at h <;> try (exact absurd h Bool.false_ne_true)
  rename_i t xs ys pos
  simp only [Bool.and_eq_true] at h
  obtain ⟨⟨⟨ht, hk⟩, ha⟩, hb⟩ := h
  rw [run_ifs] at q
  have q2 : AfterS X.K X.mg EX H F ws.flatten M σ ((tst Z c L).seq fun r => if r.1 then runSs Z a r.2 else runSs Z b r.2) Ed := by
    revert q
    unfold tst
    generalize rdW Z c (fun L => den Z c L) L = r
    intro q
    cases r with
    | ok p =>
      obtain ⟨d, L1⟩ := p
      obtain ⟨k, ek, q⟩ := q.ofB
      show AfterS X.K X.mg EX H F ws.flatten M σ (((Res.of (tru d)).bind fun b => .ok (b, L1)).seq _) Ed
      rw [ek]
      exact q
    | exn c x => exact q
    | bad => exact q
  refine toS (ps_if ptW pssW pssW) (((ihc G ht l w).2 hk).useS q2 fun k L1 H1 h1 p => ?_)
  obtain ⟨F1, ws1, l1, w1, x1⟩ := p
  cases k with
  | true =>
    rw [if_pos rfl]
    exact iha G po ha l1 w1 (h1.step x1 (fun _ m => m) fun _ _ => rfl)
  | false =>
    rw [if_neg Bool.false_ne_true]
    exact ihb G po hb l1 w1 (h1.step x1 (fun _ m => m) fun _ _ => rfl)

/-- one turn's end -/
def stepR (next : Lcs → RS) : RS → RS
  | .nx L => next L
  | .ct L => next L
  | .bk L => .nx L
  | r => r
theorem turn_S {K : PySem.W.Frag} {mg : Str → Option Value} {r : RS} {next : Lcs → RS} {N : L2.St → Hp → Prop} (q : AfterS K mg EX H F W M σ (stepR next r) Ed)
    (hN : ∀ L' σ' H', AfterS K mg EX H F W M σ (next L') Ed → PostN K H F W M σ L' σ' H' → N σ' H') : AfterS K mg EX H F W M σ r { Ed with nx := N, ct := N, bk := Ed.nx } := by
  cases r with
  | nx L' => exact fun σ' H' p => hN L' σ' H' q p
  | ct L' => exact fun σ' H' p => hN L' σ' H' q p
  | bk L' => exact q
  | rt d L' => exact q
  | exn c x => exact q
  | bad => exact q
theorem forRun_cons {tg : Tg} {body : Lcs → RS} {x : D} {xs : List D} : forRun tg body (x :: xs) L = match tg.set x L with | none => .bad | some L1 => stepR (forRun tg body xs) (body L1) := by
  rw [forRun]
  cases tg.set x L with
  | none => rfl
  | some L1 => simp only; cases body L1 <;> rfl
theorem whlRun_succ {cond : Lcs → Res (Bool × Lcs)} {body : Lcs → RS} {n : Nat} : whlRun cond body (n + 1) L = (cond L).seq fun r => if r.1 then stepR (whlRun cond body n) (body r.2) else .nx r.2 := by
  rw [whlRun]
  congr 1

def ForInv (K : PySem.W.Frag) (mg : Str → Option Value) (EX : XK) (M : List Nat) (H1 : Hp) (F1 : Addr → Prop) (W : List Addr) (run : List D → Lcs → RS) (ds : List D) (Ed : Ends) (i : Nat) (σ : L2.St) (H : Hp) : Prop :=
  ∃ (Fi : Addr → Prop) (Li : Lcs) (wsi : List (List Addr)), LReps K H Fi Li σ wsi ∧ Wf H Fi wsi.flatten ∧ Ext H1 F1 W H Fi wsi.flatten ∧ AfterS K mg EX H Fi wsi.flatten M σ (run (ds.drop i) Li) Ed

theorem for_S {tg : Tg} {s : Src} {b : Ss} (ihs : SSrc s) (ihb : SSs b) : SS (.for_ tg s b) := by
  intro X Z Γ EX G po M st h L σ ws H F Ed l w q
  simp only [chkS] at h
  split at h <;> try (exact absurd h Bool.false_ne_true)
  rename_i t it xs ys pos
  simp only [Bool.and_eq_true] at h
  obtain ⟨⟨⟨⟨⟨htg, hM⟩, hsrc⟩, hns⟩, hb⟩, hy⟩ := h
  have hy : ys = [] := by simpa using hy
  subst hy
  rw [run_for] at q
  have hs : ∀ x, foldedSetIterable it X.env x = pure x := fun x => by
    cases it <;> first | rfl | (simp [notSet] at hns)
  refine toS (ps_for po G.calm piW pgW pssW hs) ((ihs G hsrc l w).useS q fun ds L1 J H1 h1 p => ?_)
  obtain ⟨F1, ws1, wk, l1, w1, x1⟩ := p
  refine for_it wk.2 (ForInv X.K X.mg EX M H1 F1 ws1.flatten (forRun tg (fun L => runSs Z b L)) ds Ed) ?_ ?_ ?_ ?_
  · exact ⟨F1, L1, ws1, l1, w1, Ext.refl, by rw [List.drop_zero]; exact h1.step x1 (fun _ m => m) fun _ _ => rfl⟩
  · rintro i σi Hi _ ⟨Fi, Li, wsi, _, _, x, _⟩
    exact Kp.of x l1.muts w1.dj
  · rintro i x σi Hi H' hi ⟨Fi, Li, wsi, li, wi, xi, qi⟩ ⟨ka, d, hd, hrd⟩
    have e1 : ds.drop i = d :: ds.drop (i + 1) := by
      obtain ⟨h1, h2⟩ := List.getElem?_eq_some_iff.mp hd
      rw [← h2]; exact List.drop_eq_getElem_cons h1
    rw [e1, forRun_cons] at qi
    cases hset : tg.set d Li with
    | none => rw [hset] at qi; exact qi.elim
    | some La =>
      rw [hset] at qi
      refine tg_ok G htg (ka.lreps li) (hrd Fi xi.mono) (W2 := []) (by simpa using ka.wf wi) hset fun us ws' la wa sa => ?_
      have xa : Ext Hi Fi wsi.flatten H' Fi ws'.flatten := (ka.ext (F := Fi) (W := wsi.flatten)).sub fun a m => by
        rcases sa a m with z | z
        · cases z
        · exact z
      have wa' : Wf H' Fi ws'.flatten := by simpa using wa
      have qa := qi.step xa (W2 := ws'.flatten) (σ1 := setAll σi tg.slots us) (fun _ m => m) fun m hm => setAll_out (mOut hM m hm)
      refine ihb G po hb la wa' (turn_S qa fun L' σ' H'' qn p => ?_)
      obtain ⟨Fn, wsn, ln, wn, xn, mn⟩ := p
      exact ⟨Fn, L', wsn, ln, wn, (xi.trans xa).trans xn, qn.step xn (fun _ m => m) mn⟩
  · rintro σn Hn ⟨Fi, Li, wsi, li, wi, xi, qi⟩
    rw [List.drop_length, forRun] at qi
    exact qi _ _ ⟨Fi, wsi, li, wi, Ext.refl, fun _ _ => rfl⟩

theorem whl_S {c : E} {b : Ss} (ihc : SE c) (ihb : SSs b) : SS (.whl c b) := by
  intro X Z Γ EX G po M st h L σ ws H F Ed l w q
  simp only [chkS] at h
  split at h <;> try (exact absurd h Bool.false_ne_true)
  rename_i t xs ys pos
  simp only [Bool.and_eq_true] at h
  obtain ⟨⟨⟨ht, hk⟩, hb⟩, hy⟩ := h
  have hy : ys = [] := by simpa using hy
  subst hy
  rw [run_whl] at q
  refine toS (ps_while po ptW pssW) ⟨fun m σ' H' => ∃ (F' : Addr → Prop) (L' : Lcs) (ws' : List (List Addr)), LReps X.K H' F' L' σ' ws' ∧ Wf H' F' ws'.flatten ∧ AfterS X.K X.mg EX H' F' ws'.flatten M σ' (whlRun (fun L => tst Z c L) (fun L => runSs Z b L) m L') Ed, ⟨Z.N, F, L, ws, l, w, q⟩, ?_⟩
  rintro m σ1 H1 ⟨F1, L1, ws1, l1, w1, q1⟩
  cases m with
  | zero => exact q1.elim
  | succ m =>
    rw [whlRun_succ] at q1
    refine ((ihc G ht l1 w1).2 hk).useS q1 fun k L2 H2 h2 p => ?_
    obtain ⟨F2, ws2, l2, w2, x2⟩ := p
    cases k with
    | false =>
      rw [if_neg Bool.false_ne_true]
      exact h2 _ _ ⟨F2, ws2, l2, w2, x2, fun _ _ => rfl⟩
    | true =>
      rw [if_pos rfl]
      refine ⟨fun σ' H' => ∃ (F' : Addr → Prop) (L' : Lcs) (ws' : List (List Addr)), LReps X.K H' F' L' σ' ws' ∧ Wf H' F' ws'.flatten ∧ AfterS X.K X.mg EX H' F' ws'.flatten M σ' (whlRun (fun L => tst Z c L) (fun L => runSs Z b L) m L') Ed, fun σ' H' n => ⟨m, Nat.lt_succ_self m, n⟩, ?_⟩
      have h2' : AfterS X.K X.mg EX H1 F1 ws1.flatten M σ1 (stepR (whlRun (fun L => tst Z c L) (fun L => runSs Z b L) m) (runSs Z b L2)) Ed := h2
      refine ihb G po hb l2 w2 (turn_S (h2'.step x2 (fun _ m => m) fun _ _ => rfl) fun L' σ' H'' qn p => ?_)
      obtain ⟨Fn, wsn, ln, wn, xn, mn⟩ := p
      exact ⟨Fn, L', wsn, ln, wn, qn.step xn (fun _ m => m) mn⟩

theorem ret_S {e : E} (ih : SE e) : SS (.ret e) := by
  intro X Z Γ EX G po M st h L σ ws H F Ed l w q
  simp only [chkS] at h
  split at h <;> try (exact absurd h Bool.false_ne_true)
  rw [run_ret] at q
  refine toS (ps_ret peW) ((ih G h l w).1.useS q fun d L1 v H1 h1 p => ?_)
  obtain ⟨F1, W1, ws1, r1, l1, w1, x1⟩ := p
  exact h1 v σ H1 ⟨F1, W1, ws1, r1, l1, w1, x1, fun _ _ => rfl⟩
theorem retn_S : SS .retn := by
  intro X Z Γ EX G po M st h L σ ws H F Ed l w q
  simp only [chkS] at h
  split at h <;> try (exact absurd h Bool.false_ne_true)
  rw [run_retn] at q
  exact toS ps_retN (q .non σ H ⟨F, [], ws, .non .nil, l, by simpa using w, by simpa using Ext.refl, fun _ _ => rfl⟩)
theorem brk_S : SS .brk := by
  intro X Z Γ EX G po M st h L σ ws H F Ed l w q
  simp only [chkS] at h
  split at h <;> try (exact absurd h Bool.false_ne_true)
  rw [run_brk] at q
  exact toS ps_break (q σ H ⟨F, ws, l, w, Ext.refl, fun _ _ => rfl⟩)
theorem cont_S : SS .cont := by
  intro X Z Γ EX G po M st h L σ ws H F Ed l w q
  simp only [chkS] at h
  split at h <;> try (exact absurd h Bool.false_ne_true)
  rw [run_cont] at q
  exact toS ps_continue (q σ H ⟨F, ws, l, w, Ext.refl, fun _ _ => rfl⟩)
theorem pass_S : SS .pass := by
  intro X Z Γ EX G po M st h L σ ws H F Ed l w q
  simp only [chkS] at h
  rw [run_pass] at q
  split at h <;> try (exact absurd h Bool.false_ne_true)
  · exact toS ps_pass (q σ H ⟨F, ws, l, w, Ext.refl, fun _ _ => rfl⟩)
  · exact toS ps_doc (q σ H ⟨F, ws, l, w, Ext.refl, fun _ _ => rfl⟩)
theorem nev_SS : SS .nev := by
  intro X Z Γ EX G po M st h L σ ws H F Ed l w q
  rw [run_nev] at q
  exact q.elim
theorem ss_nil : SSs .nil := by
  intro X Z Γ EX G po M st h L σ ws H F Ed l w q
  cases st with
  | cons _ _ => simp [chkSs] at h
  | nil =>
    rw [runs_nil] at q
    exact toSs pss_nil (q σ H ⟨F, ws, l, w, Ext.refl, fun _ _ => rfl⟩)
theorem ss_cons {s : S} {ss : Ss} (ih : SS s) (ihs : SSs ss) : SSs (.cons s ss) := by
  intro X Z Γ EX G po M st h L σ ws H F Ed l w q
  cases st with
  | nil => simp [chkSs] at h
  | cons x xs =>
    simp only [chkSs, Bool.and_eq_true] at h
    rw [runs_cons] at q
    refine toSs (pss_cons psW pssW) (ih G po h.1 l w ?_)
    revert q
    generalize runS Z s L = r
    intro q
    cases r with
    | nx L1 =>
      intro σ' H' p
      obtain ⟨F', ws', l', w', x', m'⟩ := p
      have q : AfterS X.K X.mg EX H F ws.flatten M σ (runSs Z ss L1) Ed := q
      exact ihs G po h.2 l' w' (q.step x' (fun _ m => m) m')
    | rt d L1 => exact q
    | bk L1 => exact q
    | ct L1 => exact q
    | exn c x => exact q
    | bad => exact q
end
mutual
theorem soundS : ∀ c : S, SS c
  | .asg tg e => asg_S (soundE e)
  | .par is es => par_S (soundEs es)
  | .setx i path k e => setx_S (soundE e)
  | .setE i k e => setE_S (soundE k) (soundE e)
  | .ex e => ex_S (soundE e)
  | .app i path e => app_S (soundE e)
  | .ext i e => ext_S (soundE e)
  | .ifs c a b => ifs_S (soundE c) (soundSs a) (soundSs b)
  | .for_ tg s b => for_S (soundSrc s) (soundSs b)
  | .whl c b => whl_S (soundE c) (soundSs b)
  | .ret e => ret_S (soundE e)
  | .retn => retn_S
  | .brk => brk_S
  | .cont => cont_S
  | .pass => pass_S
  | .nev => nev_SS
theorem soundSs : ∀ c : Ss, SSs c
  | .nil => ss_nil
  | .cons s ss => ss_cons (soundS s) (soundSs ss)
end
end Q

namespace Q
open PySem L2 PySem.Spec

/-! ## functions -/
structure FnD where
  ps : List Str
  N : List Str
  md : List Bool
  body : Ss
  prim : Option Fn := none
abbrev Tab := List (Str × FnD)
def ioOuts : List Bool → Lcs → List (Option D)
  | true :: ms, o :: L => o :: ioOuts ms L
  | false :: ms, _ :: L => ioOuts ms L
  | _, _ => []
def retF (md : List Bool) : RS → Res (D × List (Option D))
  | .nx L => .ok (.non, ioOuts md L)
  | .rt d L => .ok (d, ioOuts md L)
  | .exn c x => .exn c x
  | _ => .bad
def slotsOf (N : List Str) (ds : List D) : Lcs := ds.map some ++ List.replicate (N.length - ds.length) none
def callF (V : EnvQ) (fn : FnD) (ds : List D) : Res (D × List (Option D)) :=
  match fn.prim with
  | some g => g ds
  | none => retF fn.md (runSs V fn.body (slotsOf fn.N ds))
def envN (T : Tab) (G : Str → Option D) (N : Nat) : Nat → EnvQ
  | 0 => { G := G, call := fun _ _ => .bad, md := fun f => match T.lookup f with | some fn => fn.md | none => [], ar := fun f => match T.lookup f with | some fn => fn.ps | none => [], N := N }
  | n + 1 => { G := G, call := fun f ds => match T.lookup f with | some fn => callF (envN T G N n) fn ds | none => .bad, md := fun f => match T.lookup f with | some fn => fn.md | none => [], ar := fun f => match T.lookup f with | some fn => fn.ps | none => [], N := N }
theorem envN_ar {T : Tab} {G : Str → Option D} {N n : Nat} {f : Str} {fn : FnD} (h : T.lookup f = some fn) : (envN T G N n).ar f = fn.ps := by cases n <;> simp [envN, h]
theorem envN_md {T : Tab} {G : Str → Option D} {N n : Nat} {f : Str} {fn : FnD} (h : T.lookup f = some fn) : (envN T G N n).md f = fn.md := by cases n <;> simp [envN, h]
theorem envN_G {T : Tab} {G : Str → Option D} {N n : Nat} : (envN T G N n).G = G := by cases n <;> rfl
theorem envN_call {T : Tab} {G : Str → Option D} {N n : Nat} {f : Str} {fn : FnD} (h : T.lookup f = some fn) (ds : List D) : (envN T G N (n + 1)).call f ds = callF (envN T G N n) fn ds := by simp [envN, h]

def mSlots (md : List Bool) : List Nat := (List.range md.length).filter fun i => (md[i]?).getD false
def gamF (fs : List Str) (bs gs : List Str) (kl : List (Str × List Str)) (N : List Str) (sc : Scope) : Gam :=
  { N := N, sn := sc.names, wr := (sc.names.filter fun p => decide (sc.names.lookup p.1 = some .local) || decide (sc.names.lookup p.1 = some .cell)).map (·.1), fs := fs, bs := bs, gs := gs, ks := kl }
def chkSc (N P : List Str) (sc : Scope) : Bool :=
  (match sc.kind with | .function => true | _ => false) && !sc.isCoroutine && !sc.isGenerator && decide N.Nodup && decide (N.take P.length = P) && (P.all fun x => decide (sc.names.lookup x = some .local) || decide (sc.names.lookup x = some .cell)) && (sc.names.all fun y => match y.2 with | .free => false | _ => true)
theorem chkSc_ok {N P : List Str} {sc : Scope} (h : chkSc N P sc = true) : FnScope N P sc := by
  simp only [chkSc, Bool.and_eq_true, Bool.not_eq_true', decide_eq_true_eq] at h
  obtain ⟨⟨⟨⟨⟨⟨h1, h2⟩, h3⟩, h4⟩, h5⟩, h6⟩, h7⟩ := h
  refine ⟨?_, h2, h3, h4, h5, fun x hx => ?_, fun y hy e => ?_⟩
  · split at h1
    · assumption
    · cases h1
  · have := List.all_eq_true.mp h6 x hx
    simp only [Bool.or_eq_true, decide_eq_true_eq] at this
    exact this
  · have := List.all_eq_true.mp h7 y hy
    rw [e] at this
    cases this
def chkFn (fs bs gs : List Str) (kl : List (Str × List Str)) (fn : FnD) (st : Stmt) : Bool :=
  chkSc fn.N fn.ps (defScope st) && decide (fn.md.length ≤ fn.ps.length) && chkSs (gamF fs bs gs kl fn.N (defScope st)) (mSlots fn.md) fn.body (defBody st)

section
variable {K : PySem.W.Frag} {H H' : Hp} {F F' : Addr → Prop}
theorem start_reps : ∀ {ds : List D} {vs : List V} {W : List Addr}, Reps K H F ds vs W → ∀ n : Nat, ∃ ws, LReps K H F (ds.map some ++ List.replicate n none) (vs.map some ++ List.replicate n none) ws ∧ ws.flatten = W
  | [], vs, W, r, n => by
    cases r
    have : ∀ n : Nat, LReps K H F (List.replicate n none) (List.replicate n none) (List.replicate n []) := fun n => by
      induction n with
      | zero => exact .nil
      | succ n ih => exact .skip ih
    refine ⟨List.replicate n [], by simpa using this n, by simp⟩
  | d :: ds, [], W, r, n => by cases r
  | d :: ds, v :: vs, W, r, n => by
    obtain ⟨W1, W2, rfl, r1, r2⟩ := Reps.cons_iff.mp r
    obtain ⟨ws, l, e⟩ := start_reps r2 n
    exact ⟨W1 :: ws, .cons r1 l, by simp [e]⟩
theorem outs_ok : ∀ {md : List Bool} {L : Lcs} {σ : L2.St} {ws : List (List Addr)} {vs : List V}, LReps K H F L σ ws → md.length ≤ vs.length → (∀ (i : Nat) (v : V), md[i]? = some true → vs[i]? = some v → σ[i]? = some (some v)) → ∃ W, OReps K H F (ioOuts md L) (ioPick md vs) W ∧ W.Sublist ws.flatten
  | [], L, σ, ws, vs, l, _, _ => by
    refine ⟨[], ?_, List.nil_sublist _⟩
    cases L <;> cases vs <;> exact .nil
  | b :: md, L, σ, ws, [], l, hl, _ => by simp at hl
  | b :: md, _, _, _, v :: vs, .nil, hl, h => by
    cases b with
    | true => have := h 0 v rfl rfl; simp at this
    | false =>
      -- no slots at all: then no other is changed
      have hn : ∀ (md : List Bool) (vs : List V), md.length ≤ vs.length → (∀ (i : Nat) (v : V), md[i]? = some true → vs[i]? = some v → ([] : L2.St)[i]? = some (some v)) → ioPick md vs = [] := by
        intro md
        induction md with
        | nil => intro vs _ _; cases vs <;> rfl
        | cons c md ih =>
          intro vs hl h
          cases vs with
          | nil => simp at hl
          | cons v vs =>
            cases c with
            | true => have := h 0 v rfl rfl; simp at this
            | false => exact ih vs (by simpa using hl) fun i v h1 h2 => by have := h (i + 1) v (by simpa using h1) (by simpa using h2); simp at this
      have e := hn md vs (by simpa using hl) fun i v h1 h2 => by have := h (i + 1) v (by simpa using h1) (by simpa using h2); simp at this
      refine ⟨[], ?_, List.nil_sublist _⟩
      show OReps K H F [] (ioPick md vs) []
      rw [e]; exact .nil
  | b :: md, _, _, _, v :: vs, .skip (L := L) (σ := σ) (ws := ws) (x := x) l, hl, h => by
    obtain ⟨W, o, sb⟩ := outs_ok (md := md) (vs := vs) l (by simpa using hl) fun i v h1 h2 => by have := h (i + 1) v (by simpa using h1) (by simpa using h2); simpa using this
    cases b with
    | true => exact ⟨W, .skip o, by simpa using sb⟩
    | false => exact ⟨W, o, by simpa using sb⟩
  | b :: md, _, _, _, v :: vs, .cons (d := d) (v := v') (L := L) (σ := σ) (W1 := W1) (ws := ws) r l, hl, h => by
    obtain ⟨W, o, sb⟩ := outs_ok (md := md) (vs := vs) l (by simpa using hl) fun i v h1 h2 => by have := h (i + 1) v (by simpa using h1) (by simpa using h2); simpa using this
    cases b with
    | true =>
      have e := h 0 v rfl rfl
      simp only [List.getElem?_cons_zero, Option.some.injEq] at e
      subst e
      exact ⟨W1 ++ W, .cons r o, by simpa using List.Sublist.append (List.Sublist.refl W1) sb⟩
    | false => exact ⟨W, o, by simpa using sb.trans (List.sublist_append_right W1 _)⟩
end

/-- what is known of a def -/
structure FnI (P : Program) (w : World) (K : PySem.W.Frag) (mg : Str → Option Value) (base : Heap) (kl : List (Str × List Str)) (f : Str) (ps : List Str) (a : Addr) (fd : FuncData) : Prop where
  mg : mg f = some (.ref a)
  kp : PySem.W.keepIn K (.ref a) = true
  bn : L2.Binds K fd ps []
  kw : ∀ ks, (f, ks) ∈ kl → KBn K fd ps 0 ks (fun us ws => permL (idxK ks ps) (us ++ ws)) (fun us ws => permL (idxK ks ps) (us ++ ws))

theorem fn_ok {P : Program} {w : World} {K : PySem.W.Frag} {mg : Str → Option Value} {base : Heap} {T : Tab} {G : Str → Option D} {N n k : Nat} {f : Str} {fn : FnD} {st : Stmt} {a : Addr} {fd : FuncData} {fs bs gs : List Str} {kl : List (Str × List Str)}
    (hT : T.lookup f = some fn) (hp : fn.prim = none) (F : FunD K f f (defArgs st) (defBody st) (defScope st) [] [] a fd) (hc : chkFn fs bs gs kl fn st = true)
    (hbs : ∀ x ∈ bs, mg x = none) (hgs : ∀ x ∈ gs, ∀ d, G x = some d → ∃ v u, mg x = some u ∧ RelV v u ∧ ∀ H F, Reps K H F [d] [v] [])
    (hfs : ∀ g ∈ fs, g ≠ ("__debug__" : Str) ∧ ∃ a fd, FnI P w K mg base kl g ((envN T G N n).ar g) a fd ∧ FnOk P w K mg base (L2.CX P w) k a fd ((envN T G N n).ar g) (SpF K mg (envN T G N n) g)) :
    FnOk P w K mg base (L2.CX P w) (k + 1) a fd fn.ps (SpF K mg (envN T G N (n + 1)) f) := by
  simp only [chkFn, Bool.and_eq_true, decide_eq_true_eq] at hc
  obtain ⟨⟨hsc, hmd⟩, hss⟩ := hc
  have S := chkSc_ok hsc
  refine F.ok S (fun vs H Q E h => ?_) (fun cdv A outer s H vs Q E hr h => ⟨_, pssW, ?_⟩)
  · obtain ⟨ds, F0, W, hl, _⟩ := h
    rw [hl, envN_ar hT]
  · obtain ⟨ds, F0, W, hl, r, wf, io, hres⟩ := h
    rw [envN_ar hT] at hl
    rw [envN_md hT] at io
    rw [envN_call hT] at hres
    have hdl := r.length
    obtain ⟨ws, l, ew⟩ := start_reps r (fn.N.length - ds.length)
    have es : vs.map some ++ List.replicate (fn.N.length - ds.length) none = L2.start fn.N vs := by unfold L2.start; rw [hdl]
    rw [es] at l
    subst ew
    have po : PassesOwn (model (cxOf (L2.CX P w) P w K mg base fn.N f (defScope st) a cdv A outer s H E).prog (cxOf (L2.CX P w) P w K mg base fn.N f (defScope st) a cdv A outer s H E).w) (cxOf (L2.CX P w) P w K mg base fn.N f (defScope st) a cdv A outer s H E).A (cxOf (L2.CX P w) P w K mg base fn.N f (defScope st) a cdv A outer s H E).env (cxOf (L2.CX P w) P w K mg base fn.N f (defScope st) a cdv A outer s H E).xe := passes_of rfl
    have tk : Takes (cxOf (L2.CX P w) P w K mg base fn.N f (defScope st) a cdv A outer s H E) (fun cls d _ H => E cls d H) := takes_of rfl rfl rfl rfl
    have GG : Good (cxOf (L2.CX P w) P w K mg base fn.N f (defScope st) a cdv A outer s H E) (envN T G N n) (gamF fs bs gs kl fn.N (defScope st)) E := by
      refine ⟨rfl, S.kind, rfl, S.nd, rfl, fun x hx => ?_, hbs, fun x hx d hd => hgs x hx d (by rw [envN_G] at hd; exact hd), (by have := hr.un; show (A.deeper (PyProof.Rows.envOfC f (defScope st) s.heap.objs.size a cdv)).units + 65 < cLine; omega), fun g hg => ?_⟩
      · obtain ⟨p, hp, rfl⟩ := List.mem_map.mp hx
        have := (List.mem_filter.mp hp).2
        simp only [Bool.or_eq_true, decide_eq_true_eq] at this
        exact ⟨this, .inl rfl⟩
      · obtain ⟨hne, a', fd', i, fo⟩ := hfs g hg
        exact ⟨⟨a', fd', k, i.mg, i.kp, fo, hr, i.bn, i.kw⟩, passes_call tk fun _ _ _ _ h => h, hne⟩
    refine soundSs fn.body GG po hss l wf ?_
    -- the outs
    have outs : ∀ {L' : Lcs} {σ' : L2.St} {H' : Hp} {F' : Addr → Prop} {ws' : List (List Addr)}, LReps K H' F' L' σ' ws' → (∀ i ∈ mSlots fn.md, σ'[i]? = (L2.start fn.N vs)[i]?) → ∃ W2, OReps K H' F' (ioOuts fn.md L') (ioPick fn.md vs) W2 ∧ W2.Sublist ws'.flatten := by
      intro L' σ' H' F' ws' l' m
      refine outs_ok l' (by omega) fun i v h1 h2 => ?_
      have hi : i ∈ mSlots fn.md := by
        refine List.mem_filter.mpr ⟨List.mem_range.mpr (List.getElem?_eq_some_iff.mp h1).1, by rw [h1]; rfl⟩
      rw [m i hi]
      unfold L2.start
      rw [List.getElem?_append_left (by rw [List.length_map]; exact (List.getElem?_eq_some_iff.mp h2).1), List.getElem?_map, h2]; rfl
    have md' : (envN T G N (n + 1)).md f = fn.md := envN_md hT
    rw [md'] at hres
    unfold callF at hres
    rw [hp] at hres
    simp only at hres
    show AfterS K mg E H F0 ws.flatten (mSlots fn.md) (L2.start fn.N vs) (runSs (envN T G N n) fn.body (slotsOf fn.N ds)) _
    revert hres
    generalize runSs (envN T G N n) fn.body (slotsOf fn.N ds) = rr
    intro hres
    cases rr with
    | bad => exact hres
    | bk L' => exact hres.elim
    | ct L' => exact hres.elim
    | exn c x => exact hres
    | nx L' =>
      intro σ' H' p
      obtain ⟨F', ws', l', w', x', m'⟩ := p
      obtain ⟨W2, o, sb⟩ := outs l' m'
      exact hres .non H' F' [] W2 (.non .nil) o (by simpa using w'.sub sb) (by simpa using x'.sub fun c m => sb.subset m)
    | rt d L' =>
      intro v σ' H' p
      obtain ⟨F', W1, ws', rd, l', w', x', m'⟩ := p
      obtain ⟨W2, o, sb⟩ := outs l' m'
      exact hres v H' F' W1 W2 rd o (w'.sub (List.Sublist.append (List.Sublist.refl _) sb)) (x'.sub fun c m => (List.Sublist.append (List.Sublist.refl W1) sb).subset m)

/-- the whole table -/
structure TabI (P : Program) (w : World) (K : PySem.W.Frag) (mg : Str → Option Value) (base : Heap) (T : Tab) (G : Str → Option D) (bs gs : List Str) (kl : List (Str × List Str)) (c : Nat) : Prop where
  hbs : ∀ x ∈ bs, mg x = none
  hgs : ∀ x ∈ gs, ∀ d, G x = some d → ∃ v u, mg x = some u ∧ RelV v u ∧ ∀ H F, Reps K H F [d] [v] []
  dbg : T.lookup ("__debug__" : Str) = none
  fns : ∀ f fn, T.lookup f = some fn → ∃ a fd, FnI P w K mg base kl f fn.ps a fd ∧
    match fn.prim with
    | none => ∃ st, FunD K f f (defArgs st) (defBody st) (defScope st) [] [] a fd ∧ chkFn (T.map (·.1)) bs gs kl fn st = true
    | some g => ∀ Z : EnvQ, Z.ar f = fn.ps → Z.md f = fn.md → (∀ ds, Z.call f ds = g ds) → FnOk P w K mg base (L2.CX P w) (c + 1) a fd fn.ps (SpF K mg Z f)
theorem lookup_key {α : Type} : ∀ {l : List (Str × α)} {x : Str}, x ∈ l.map (·.1) → ∃ y, l.lookup x = some y
  | (k, v) :: l, x, h => by
    rw [List.lookup_cons]
    cases hb : x == k with
    | true => exact ⟨_, rfl⟩
    | false =>
      rcases List.mem_cons.mp h with e | h
      · have e : x = k := e
        subst e; simp at hb
      · exact lookup_key h
theorem tab_ok {P : Program} {w : World} {K : PySem.W.Frag} {mg : Str → Option Value} {base : Heap} {T : Tab} {G : Str → Option D} {N c : Nat} {bs gs : List Str} {kl : List (Str × List Str)} (I : TabI P w K mg base T G bs gs kl c) :
    ∀ (n : Nat) (f : Str) (fn : FnD), T.lookup f = some fn → ∃ a fd, FnI P w K mg base kl f fn.ps a fd ∧ FnOk P w K mg base (L2.CX P w) (n + c + 1) a fd fn.ps (SpF K mg (envN T G N n) f)
  | 0, f, fn, h => by
    obtain ⟨a, fd, i, q⟩ := I.fns f fn h
    refine ⟨a, fd, i, ?_⟩
    have no : ∀ vs H Q E, ¬ SpF K mg (envN T G N 0) f vs H Q E := fun vs H Q E ⟨ds, F, W, _, _, _, _, z⟩ => z
    cases hp : fn.prim with
    | none =>
      rw [hp] at q
      obtain ⟨st, F, hc⟩ := q
      simp only [chkFn, Bool.and_eq_true, decide_eq_true_eq] at hc
      exact F.ok (chkSc_ok hc.1.1) (fun vs H Q E z => (no _ _ _ _ z).elim) fun cdv A outer s H vs Q E hr z => (no _ _ _ _ z).elim
    | some g =>
      rw [hp] at q
      have := q { G := G, call := fun _ => g, md := (envN T G N 0).md, ar := (envN T G N 0).ar, N := N } (show (envN T G N 0).ar f = fn.ps from envN_ar h) (show (envN T G N 0).md f = fn.md from envN_md h) fun _ => rfl
      rw [Nat.zero_add]
      exact this.imp fun vs H Q E z => (no _ _ _ _ z).elim
  | n + 1, f, fn, h => by
    obtain ⟨a, fd, i, q⟩ := I.fns f fn h
    refine ⟨a, fd, i, ?_⟩
    cases hp : fn.prim with
    | none =>
      rw [hp] at q
      obtain ⟨st, F, hc⟩ := q
      have e : n + 1 + c + 1 = (n + c + 1) + 1 := by omega
      rw [e]
      refine fn_ok h hp F hc I.hbs I.hgs fun g hg => ?_
      obtain ⟨fn', h'⟩ := lookup_key hg
      obtain ⟨a', fd', i', o'⟩ := tab_ok I n g fn' h'
      rw [envN_ar h']
      refine ⟨fun z => ?_, a', fd', i', o'⟩
      rw [z, I.dbg] at h'; cases h'
    | some g =>
      rw [hp] at q
      have := q (envN T G N (n + 1)) (envN_ar h) (envN_md h) fun ds => by rw [envN_call h]; unfold callF; rw [hp]
      exact this.mono (by omega)
end Q

namespace Q
open PySem L2 PySem.Spec

/-! ## what spoils a thing -/
def late : D := .str (Str.ofString "late")
def spo : Nat → D → Bool
  | 0, _ => false
  | k + 1, d => match d with
    | .non | .bl _ | .int _ | .str _ => true
    | .tup ds => decide (ds.length ≤ 1000000) && ds.all (spo k)
    | .lst true ds => decide (ds.length < 1000000) && ds.all (spo k)
    | _ => false
def spoil : Nat → D → D
  | 0, d => d
  | k + 1, d => match d with
    | .tup ds => .tup (ds.map (spoil k))
    | .lst true ds => .lst true (ds.map (spoil k) ++ [late])
    | d => d
def spoRun (k : Nat) : Fn := fun ds => match ds with
  | [d] => if spo k d then .ok (.non, [some (spoil k d)]) else .bad
  | _ => .bad
def nSpo : Str := Str.ofString "_law_spoilt"
def sp1 : E := .p (.o1 (.isi ["list", "tuple"]) (.var 0))
def sp2 : S := .ifs (.p (.o1 (.isi ["list"]) (.var 0))) (.cons (.app 0 [] (.p (.str (Str.ofString "late")))) .nil) .nil
/-- the text of it -/
def chkSpo (Γ : Gam) (body : List Stmt) : Bool := match body with
  | [.If t1 [.For tg it [.Expr (.Call f [y] [] _) _] [] _] [] _, st2] =>
    chkE Γ sp1 t1 && chkTg Γ (.nm 1) tg && chkP Γ (.var 0) it && fnOk Γ nSpo f && chkP Γ (.var 1) y && chkS Γ [0] sp2 st2
  | _ => false
section
variable {X : Cx} {Z : EnvQ} {Γ : Gam} {EX : XK} {σ : L2.St} {H H1 : Hp} {F F1 : Addr → Prop} {W W1 Wt : List Addr}

theorem nameOf {Γ : Gam} {i : Nat} {e : Expr} (h : chkP Γ (.var i) e = true) : ∃ x p, e = .Name x p ∧ varOk Γ i x = true := by
  simp only [chkP] at h
  split at h
  · exact ⟨_, _, rfl, h⟩
  · exact absurd h Bool.false_ne_true
theorem aside0 (m0 : ∀ a ∈ Wt, H a ≠ none) (w : Wf H F (Wt ++ W)) (x : Ext H F W H1 F1 W1) (w1 : Wf H1 F1 W1) : Wf H1 F1 (Wt ++ W1) ∧ Ext H F (Wt ++ W) H1 F1 (Wt ++ W1) := by
  have nd := List.nodup_append.mp w.nd
  have dis : ∀ a ∈ Wt, a ∉ W := fun a h z => nd.2.2 a h a z rfl
  refine ⟨⟨?_, fun a h => ?_, w1.tr⟩, ⟨fun a o h n => x.keep a o h fun z => n (List.mem_append_right _ z), fun a h => ?_, x.mono, fun a h => ?_, x.live⟩⟩
  · refine List.nodup_append.mpr ⟨nd.1, w1.nd, fun a h b h' e => ?_⟩
    subst e
    rcases x.w a h' with z | z
    · exact dis a h z
    · exact m0 a h z
  · rcases List.mem_append.mp h with h | h
    · intro z
      rcases x.f a z with z | z | z
      · exact w.dj a (List.mem_append_left _ h) z
      · exact dis a h z
      · exact m0 a h z
    · exact w1.dj a h
  · rcases List.mem_append.mp h with h | h
    · exact .inl (List.mem_append_left _ h)
    · exact (x.w a h).elim (fun z => .inl (List.mem_append_right _ z)) .inr
  · rcases x.f a h with z | z | z
    · exact .inl z
    · exact .inr (.inl (List.mem_append_right _ z))
    · exact .inr (.inr z)

/-- ahead of turn i -/
def SpoInv (K : PySem.W.Frag) (H0 : Hp) (F0 : Addr → Prop) (W : List Addr) (v : V) (ok : Hp → Prop) (W0 : List Addr) (ds : List D) (us : List V) (k : Nat) (i : Nat) (σ : L2.St) (H : Hp) : Prop :=
  ∃ (F : Addr → Prop) (Wr : List Addr), σ[0]? = some (some v) ∧ σ.length = 2 ∧ Reps K H F ((ds.take i).map (spoil k) ++ ds.drop i) us Wr ∧ Wf H F (W0 ++ Wr) ∧ Ext H0 F0 W H F (W0 ++ Wr) ∧ ok H ∧ ∀ a ∈ W0, H a ≠ none
theorem take_set {α : Type} {f : α → α} : ∀ {l : List α} {i : Nat} {d : α}, l[i]? = some d → ((l.take i).map f ++ l.drop i).set i (f d) = (l.take (i + 1)).map f ++ l.drop (i + 1)
  | [], i, d, h => by simp at h
  | a :: l, 0, d, h => by simp at h; subst h; simp
  | a :: l, i + 1, d, h => by simpa using take_set (f := f) (l := l) (i := i) (by simpa using h)
theorem take_at {α : Type} {f : α → α} : ∀ {l : List α} {i : Nat} {d : α}, l[i]? = some d → ((l.take i).map f ++ l.drop i)[i]? = some d
  | [], i, d, h => by simp at h
  | a :: l, 0, d, h => by simpa using h
  | a :: l, i + 1, d, h => by simpa using take_at (f := f) (l := l) (i := i) (by simpa using h)

theorem spo_loop (G : Good X Z Γ EX) (po : PassesOwn (model X.prog X.w) X.A X.env X.xe) {tg it f y : Expr} {cpos p1 pos : Pos} {k : Nat} (htg : chkTg Γ (.nm 1) tg = true) (hit : chkP Γ (.var 0) it = true) (hf : fnOk Γ nSpo f = true) (hy : chkP Γ (.var 1) y = true)
    (zc : ∀ ds, Z.call nSpo ds = spoRun k ds) (za : Z.ar nSpo = [Str.ofString "thing"]) (zm : Z.md nSpo = [true]) {a : Addr} {ds : List D} {us : List V} {Wr W0 : List Addr} {ok : Hp → Prop} {Ed : Ends}
    (hσ : σ[0]? = some (some (.ref a))) (hl : σ.length = 2) (r : Reps X.K H F ds us Wr) (w : Wf H F (W0 ++ Wr)) (m0 : ∀ a ∈ W0, H a ≠ none) (h0 : ok H) (hall : ds.all (spo k) = true)
    (hok : (∀ H, ok H → SqL X.K H a us) ∨ ∀ H, ok H → SqT X.K H a us)
    (step : ∀ H1 F1 W1 H2 F2 W2, Ext H1 F1 W1 H2 F2 W2 → (∀ c ∈ W1, IsMut H1 c) → (∀ c ∈ W0, c ∉ W1) → ok H1 → ok H2)
    (q : ∀ σ' H', (∃ F' Wr', σ'[0]? = some (some (.ref a)) ∧ σ'.length = 2 ∧ Reps X.K H' F' (ds.map (spoil k)) us Wr' ∧ Wf H' F' (W0 ++ Wr') ∧ Ext H F (W0 ++ Wr) H' F' (W0 ++ Wr') ∧ ok H') → Ed.nx σ' H') :
    tsW X (.For tg it [.Expr (.Call f [y] [] cpos) p1] [] pos) Ed σ H := by
  obtain ⟨xi, pi, rfl, hxi⟩ := nameOf hit
  obtain ⟨xy, py, rfl, hxy⟩ := nameOf hy
  obtain ⟨pf, rfl, hg, hm⟩ := fnOk_out hf
  obtain ⟨g1, g2, g3⟩ := G.gl hg
  obtain ⟨⟨ac, fd, kk, m1, m2, m3, m4, m5, m6⟩, pass, _⟩ := G.ca nSpo hm
  have nm : nmOk Γ 1 tg = true := by simpa only [chkTg] using htg
  have hlen := r.length
  have turn : ∀ (i : Nat) (x : V) (σi : L2.St) (Hi : Hp), i < us.length → us[i]? = some x → SpoInv X.K H F (W0 ++ Wr) (.ref a) ok W0 ds us k i σi Hi →
      tgW X tg x σi Hi fun σ2 H2 => tssW X [.Expr (.Call (.Name nSpo pf) [.Name xy py] [] cpos) p1] { Ed with nx := SpoInv X.K H F (W0 ++ Wr) (.ref a) ok W0 ds us k (i + 1), ct := SpoInv X.K H F (W0 ++ Wr) (.ref a) ok W0 ds us k (i + 1), bk := Ed.nx } σ2 H2 := by
    intro i x σi Hi hi hx ⟨Fi, Wi, s0, sl, ri, wi, xi, oki, mi⟩
    refine toG (nm_pg G nm) ?_
    show tssW X _ _ (σi.set 1 (some x)) Hi
    refine toSs (pss_one (ps_expr (pe_call (dvs := []) m3 m4 g1 m1 m2 m5 .nil pass (pa_cons peW pa_nil (starEach_of rfl)) g2 (starEach_of rfl) rfl) rfl)) ?_
    refine toW (G.var hxy) ⟨x, by rw [List.getElem?_set_self (by omega)], ?_⟩
    have hd : ∃ d, ds[i]? = some d := ⟨ds[i]'(by omega), by simp [show i < ds.length by omega]⟩
    obtain ⟨d, hd⟩ := hd
    obtain ⟨x', Wa, Wd, Wb, e1, rfl, ra, rd, rb⟩ := ri.split3 (take_at (f := spoil k) hd)
    rw [hx] at e1; cases e1
    have hsp : spo k d = true := List.all_eq_true.mp hall d (List.mem_of_getElem? hd)
    have wp : Wf Hi Fi ((W0 ++ (Wa ++ Wb)) ++ Wd) := wi.perm (by
      refine List.perm_iff_count.mpr fun c => ?_
      simp only [List.count_append]; omega)
    refine ⟨[d], Fi, Wd, by rw [za]; rfl, rd, wp.right, by rw [zm]; rfl, ?_⟩
    rw [zc]
    simp only [spoRun, hsp, if_true]
    intro v H' F' W1 W2 rv ro wf' x2
    rw [zm] at ro
    have e1 : W1 = [] := rv.noOwn (by rfl)
    subst e1
    have ro' : OReps X.K H' F' [some (spoil k d)] [x] W2 := ro
    have rs : Reps X.K H' F' [spoil k d] [x] W2 := by
      cases ro' with
      | cons r1 r2 => cases r2; simpa using r1
    have m0' : ∀ c ∈ W0 ++ (Wa ++ Wb), Hi c ≠ none := fun c m => by
      rcases List.mem_append.mp m with m | m
      · exact mi c m
      · rcases List.mem_append.mp m with m | m
        · exact (ra.muts c m).some
        · exact (rb.muts c m).some
    obtain ⟨w2, x3⟩ := aside0 m0' wp (by simpa using x2) (by simpa using wf')
    have nd := List.nodup_append.mp wp.nd
    have fr : ∀ {es : List D} {vs : List V} {Wx : List Addr}, Reps X.K Hi Fi es vs Wx → (∀ c ∈ Wx, c ∈ Wa ++ Wb) → Reps X.K H' F' es vs Wx := fun rx sub =>
      rx.frame (B := Wd) x2.keep rd.muts (fun c m z => nd.2.2 c (List.mem_append_right _ (sub c m)) c z rfl) (fun c f z => wp.right.dj c z f) x2.mono
    have rj := Reps.join3 (fr ra fun c m => List.mem_append_left _ m) rs (fr rb fun c m => List.mem_append_right _ m) (by have := ri.length; omega) ri.length
    rw [take_set hd] at rj
    have ev : us.set i x = us := by
      obtain ⟨h2, h3⟩ := List.getElem?_eq_some_iff.mp hx
      rw [← h3]; exact List.set_getElem_self h2
    rw [ev] at rj
    have pm : ((W0 ++ (Wa ++ Wb)) ++ W2).Perm (W0 ++ (Wa ++ (W2 ++ Wb))) := by
      refine List.perm_iff_count.mpr fun c => ?_
      simp only [List.count_append]; omega
    refine ⟨F', Wa ++ (W2 ++ Wb), ?_, by rw [List.length_set]; exact sl, rj, w2.perm pm, ?_, ?_, fun c m => x2.live c (mi c m)⟩
    · rw [List.getElem?_set_ne (by decide)]; exact s0
    · have x4 : Ext Hi Fi (W0 ++ (Wa ++ (Wd ++ Wb))) H' F' (W0 ++ (Wa ++ (W2 ++ Wb))) := by
        refine (x3.wid fun c m => ?_).sub fun c m => pm.mem_iff.mpr m
        simp only [List.mem_append] at m ⊢
        rcases m with (m | m | m) | m <;> simp [m]
      exact xi.trans x4
    · exact step _ _ _ _ _ _ x2 rd.muts (fun c m z => nd.2.2 c (List.mem_append_left _ m) c z rfl) oki
  have start : SpoInv X.K H F (W0 ++ Wr) (.ref a) ok W0 ds us k 0 σ H := ⟨F, Wr, hσ, hl, by simpa using r, w, Ext.refl, h0, m0⟩
  have fin : ∀ σn Hn, SpoInv X.K H F (W0 ++ Wr) (.ref a) ok W0 ds us k us.length σn Hn → Ed.nx σn Hn := fun σn Hn ⟨Fn, Wn, s0, sl, rn, wn, xn, okn, _⟩ => q σn Hn ⟨Fn, Wn, s0, sl, by simpa [← hlen] using rn, wn, xn, okn⟩
  refine toS (ps_for po G.calm (pi_seq peW) pgW pssW (fun _ => rfl)) (toW (G.var hxi) ⟨.ref a, hσ, a, us, rfl, ?_⟩)
  rcases hok with hok | hok
  · refine .inl ⟨hok H h0, for_it walk_list (SpoInv X.K H F (W0 ++ Wr) (.ref a) ok W0 ds us k) start (fun i σi Hi _ p => ?_) (fun i x σi Hi H' hi p y => ?_) fin⟩
    · obtain ⟨_, _, _, _, _, _, _, z, _⟩ := p; exact hok _ z
    · obtain ⟨rfl, hx⟩ := y
      exact turn i x σi _ hi hx p
  · refine .inr ⟨hok H h0, for_it walk_tup (SpoInv X.K H F (W0 ++ Wr) (.ref a) ok W0 ds us k) start (fun i σi Hi _ p => ?_) (fun i x σi Hi H' hi p y => ?_) fin⟩
    · obtain ⟨_, _, _, _, _, _, _, z, _⟩ := p; exact hok _ z
    · obtain ⟨rfl, hx⟩ := y
      exact turn i x σi _ hi hx p

theorem sp2_lst {Z : EnvQ} {es : List D} {o : Option D} (h : es.length < 1000000) : runS Z sp2 [some (.lst true es), o] = .nx [some (.lst true (es ++ [late])), o] := by
  unfold sp2
  rw [run_ifs, rdW_p]
  have e : pur Z.G (.o1 (.isi ["list"]) (.var 0)) [some (.lst true es), o] = some (.bl true) := rfl
  rw [e]
  show runSs Z (.cons (.app 0 [] (.p (.str (Str.ofString "late")))) .nil) [some (.lst true es), o] = _
  rw [runs_cons, run_app0]
  have e2 : lstAt [some (D.lst true es), o] 0 = some () := rfl
  rw [e2]
  show ((den Z (.p (.str (Str.ofString "late"))) [some (.lst true es), o]).seq fun r => RS.of (appRun Z.G 0 [] r.1 r.2)).seq _ = _
  rw [den_p]
  have e3 : keepP Z.G (.str (Str.ofString "late")) [some (D.lst true es), o] = .ok (late, [some (.lst true es), o]) := rfl
  rw [e3]
  show (RS.of (appRun Z.G 0 [] late [some (.lst true es), o])).seq _ = _
  have e4 : appRun Z.G 0 [] late [some (D.lst true es), o] = some [some (.lst true (es ++ [late])), o] := by
    simp [appRun, pathInts, updPath, appF, h]
  rw [e4]
  show runSs Z .nil _ = _
  rw [runs_nil]
theorem sp2_no {Z : EnvQ} {d : D} {o : Option D} (h : d.isT "list" = false) : runS Z sp2 [some d, o] = .nx [some d, o] := by
  unfold sp2
  rw [run_ifs, rdW_p]
  have e : pur Z.G (.o1 (.isi ["list"]) (.var 0)) [some d, o] = some (.bl false) := by
    show some (D.bl (["list"].any d.isT)) = _
    simp [h]
  rw [e]
  show runSs Z .nil [some d, o] = _
  rw [runs_nil]
theorem SqT.fr {K : PySem.W.Frag} {H2 : Hp} {F2 : Addr → Prop} {W2 : List Addr} {a : Addr} {us : List V} (s : SqD K H a us) (x : Ext H F W H2 F2 W2) (m : ∀ c ∈ W, IsMut H c) : SqD K H2 a us := SqD.frame s x.keep m

theorem spo_body (G : Good X Z Γ EX) (po : PassesOwn (model X.prog X.w) X.A X.env X.xe) {body : List Stmt} {k : Nat} (hc : chkSpo Γ body = true)
    (zc : ∀ ds, Z.call nSpo ds = spoRun k ds) (za : Z.ar nSpo = [Str.ofString "thing"]) (zm : Z.md nSpo = [true]) {d : D} {v : V} (r : Reps X.K H F [d] [v] W) (w : Wf H F W) (hsp : spo (k + 1) d = true) {Ed : Ends}
    (q : ∀ σ' H' F' W2, Reps X.K H' F' [spoil (k + 1) d] [v] W2 → Wf H' F' W2 → Ext H F W H' F' W2 → Ed.nx σ' H') :
    tssW X body Ed [some v, none] H := by
  unfold chkSpo at hc
  split at hc <;> try (exact absurd hc Bool.false_ne_true)
  rename_i t1 tg it f y cpos p1 pos pos2 st2
  simp only [Bool.and_eq_true] at hc
  obtain ⟨⟨⟨⟨⟨ht1, htg⟩, hit⟩, hf⟩, hy⟩, hst2⟩ := hc
  have l : LReps X.K H F [some d, none] [some v, none] [W, []] := .cons r (.skip .nil)
  have wl : Wf H F ([W, []] : List (List Addr)).flatten := by simpa using w
  -- the second statement
  have two : ∀ {σ1 : L2.St} {H1 : Hp} {F1 : Addr → Prop} {W1 : List Addr} {d1 : D}, σ1[0]? = some (some v) → σ1.length = 2 → Reps X.K H1 F1 [d1] [v] W1 → Wf H1 F1 W1 → Ext H F W H1 F1 W1 → runS Z sp2 [some d1, none] = .nx [some (spoil (k + 1) d), none] → tssW X [st2] Ed σ1 H1 := by
    intro σ1 H1 F1 W1 d1 s0 sl r1 w1 x1 e
    obtain ⟨o, rfl⟩ : ∃ o, σ1 = [some v, o] := by
      cases σ1 with
      | nil => simp at sl
      | cons a σ1 => cases σ1 with
        | nil => simp at sl
        | cons b σ1 => cases σ1 with
          | nil => simp at s0; subst s0; exact ⟨b, rfl⟩
          | cons _ _ => simp at sl
    have l1 : LReps X.K H1 F1 [some d1, none] [some v, o] [W1, []] := .cons r1 (.skip .nil)
    refine toSs (pss_one psW) (soundS sp2 G po hst2 l1 (by simpa using w1) ?_)
    rw [e]
    intro σ' H' p
    obtain ⟨F', ws', l', w', x', m'⟩ := p
    obtain ⟨v', e1, r', hi⟩ := l'.get (i := 0) rfl
    have : σ'[0]? = some (some v) := by rw [m' 0 List.mem_cons_self]; rfl
    rw [this] at e1; cases e1
    have sb : (ws'.getD 0 []).Sublist ws'.flatten := by
      cases ws' with
      | nil => simp
      | cons a b => simpa using List.sublist_append_left a b.flatten
    exact q σ' H' F' _ r' (w'.sub sb) ((x1.trans (by simpa using x')).sub fun c m => sb.subset m)
  -- the first test
  refine toSs (pss_cons (ps_if ptW pssW pss_nil) pssW) ?_
  have gt := ((soundE sp1) G ht1 l wl).2 rfl
  refine gt _ ?_
  have et : tst Z sp1 [some d, none] = .ok (["list", "tuple"].any d.isT, [some d, none]) := by
    unfold tst sp1
    rw [rdW_p]
    rfl
  rw [et]
  intro H1 p
  obtain ⟨F1, ws1, l1, w1, x1⟩ := p
  obtain ⟨v', e1, r1, hi⟩ := l1.get (i := 0) rfl
  have e1 : v' = v := by simp at e1; exact e1.symm
  subst e1
  have sb : (ws1.getD 0 []).Sublist ws1.flatten := by
    cases ws1 with
    | nil => simp
    | cons a b => simpa using List.sublist_append_left a b.flatten
  have w1' : Wf H1 F1 (ws1.getD 0 []) := w1.sub sb
  have x1' : Ext H F W H1 F1 (ws1.getD 0 []) := (by simpa using x1 : Ext H F W H1 F1 ws1.flatten).sub fun c m => sb.subset m
  show if (["list", "tuple"].any d.isT) = true then tssW X _ { Ed with nx := tssW X [st2] Ed } [some v', none] H1 else tssW X [st2] Ed [some v', none] H1
  cases d with
  | non => exact two rfl rfl r1 w1' x1' (sp2_no rfl)
  | bl b => exact two rfl rfl r1 w1' x1' (sp2_no rfl)
  | int i => exact two rfl rfl r1 w1' x1' (sp2_no rfl)
  | str s => exact two rfl rfl r1 w1' x1' (sp2_no rfl)
  | dic o ks ds => simp [spo] at hsp
  | frz ds => simp [spo] at hsp
  | tup ds =>
    simp only [spo, Bool.and_eq_true, decide_eq_true_eq] at hsp
    obtain ⟨a, us, rfl, s, re⟩ := r1.tupD
    rw [if_pos (by rfl)]
    refine toSs (pss_one psW) (spo_loop (W0 := []) (ok := fun H => SqD X.K H a us) G po htg hit hf hy zc za zm (σ := [some (.ref a), none]) rfl rfl re (by simpa using w1') (fun c m => nomatch m) s hsp.2 (.inr fun _ h => h.1) (fun Ha Fa Wa Hb Fb Wb x m _ h => SqT.fr h x m) fun σ' H' ⟨F', Wr', s0, sl, r', w', x', o'⟩ => ?_)
    refine two s0 sl (d1 := .tup (ds.map (spoil k))) (W1 := Wr') ?_ (by simpa using w') (x1'.trans (by simpa using x')) (sp2_no rfl)
    have := Reps.tup (W2 := []) o' r' .nil
    simpa using this
  | lst b ds =>
    cases b with
    | false => simp [spo] at hsp
    | true =>
      simp only [spo, Bool.and_eq_true, decide_eq_true_eq] at hsp
      obtain ⟨a, us, We, rfl, s, re, _, e2, _⟩ := r1.lstI
      have e2 := e2 rfl
      rw [e2] at w1' x1'
      rw [if_pos (by rfl)]
      have ma : ∀ c ∈ [a], H1 c ≠ none := fun c m => by
        have hca : c = a := by simpa using m
        rw [hca, s]; exact fun z => nomatch z
      refine toSs (pss_one psW) (spo_loop (W0 := [a]) (ok := fun H => H a = some (.lst us)) G po htg hit hf hy zc za zm (σ := [some (.ref a), none]) rfl rfl re w1' ma s hsp.2 (.inl fun _ h => SqL.of h) (fun Ha Fa Wa Hb Fb Wb x m n h => x.keep a _ h (n a List.mem_cons_self)) fun σ' H' ⟨F', Wr', s0, sl, r', w', x', o'⟩ => ?_)
      refine two s0 sl (d1 := .lst true (ds.map (spoil k))) (W1 := a :: Wr') ?_ w' (x1'.trans x') (sp2_lst (by rw [List.length_map]; exact hsp.1))
      have := Reps.own (W2 := []) o' r' .nil
      simpa using this

/-- the spoiling def keeps its promise, k deep -/
theorem spo_ok {P : Program} {w : World} {K : PySem.W.Frag} {mg : Str → Option Value} {base : Heap} {st : Stmt} {a : Addr} {fd : FuncData} {bs : List Str} {kl : List (Str × List Str)}
    (F : FunD K nSpo nSpo (defArgs st) (defBody st) (defScope st) [] [] a fd) (i : FnI P w K mg base kl nSpo [Str.ofString "thing"] a fd) (hsc : chkSc [Str.ofString "thing", Str.ofString "part"] [Str.ofString "thing"] (defScope st) = true)
    (hb : chkSpo (gamF [nSpo] bs [] kl [Str.ofString "thing", Str.ofString "part"] (defScope st)) (defBody st) = true) (hbs : ∀ x ∈ bs, mg x = none) :
    ∀ (k : Nat) (Z : EnvQ), Z.ar nSpo = [Str.ofString "thing"] → Z.md nSpo = [true] → (∀ ds, Z.call nSpo ds = spoRun k ds) → FnOk P w K mg base (L2.CX P w) (k + 1) a fd [Str.ofString "thing"] (SpF K mg Z nSpo)
  | 0, Z, za, zm, zc => by
    have no : ∀ vs H Q E, ¬ SpF K mg Z nSpo vs H Q E := fun vs H Q E ⟨ds, F, W, _, _, _, _, z⟩ => by
      rw [zc] at z
      unfold spoRun at z
      split at z
      · rename_i hh
        split at hh <;> first | cases hh | (simp [spo] at hh)
      · rename_i hh
        split at hh <;> first | cases hh | (simp [spo] at hh)
      · exact z
    exact F.ok (chkSc_ok hsc) (fun vs H Q E z => (no _ _ _ _ z).elim) fun cdv A outer s H vs Q E hr z => (no _ _ _ _ z).elim
  | k + 1, Z, za, zm, zc => by
    let Z' : EnvQ := { G := fun _ => none, call := fun _ => spoRun k, md := fun _ => [true], ar := fun _ => [Str.ofString "thing"], N := 0 }
    have ih := spo_ok F i hsc hb hbs k Z' rfl rfl fun _ => rfl
    have S := chkSc_ok hsc
    refine F.ok S (fun vs H Q E h => ?_) (fun cdv A outer s H vs Q E hr h => ⟨_, pssW, ?_⟩)
    · obtain ⟨ds, F0, W, hl, _⟩ := h
      rw [hl, za]
    · obtain ⟨ds, F0, W, hl, r, wf, io, hres⟩ := h
      rw [za] at hl
      rw [zm] at hres
      have hdl := r.length
      obtain ⟨v, rfl⟩ : ∃ v, vs = [v] := by
        cases vs with
        | nil => simp at hl
        | cons v vs => cases vs with
          | nil => exact ⟨v, rfl⟩
          | cons _ _ => simp at hl
      obtain ⟨d, rfl⟩ : ∃ d, ds = [d] := by
        cases ds with
        | nil => simp at hdl
        | cons d ds => cases ds with
          | nil => exact ⟨d, rfl⟩
          | cons _ _ => simp at hdl
      rw [zc] at hres
      have hres : match (if spo (k + 1) d then Res.ok (D.non, [some (spoil (k + 1) d)]) else Res.bad) with
        | .ok (d, os) => ∀ v' H' F' W1 W2, Reps K H' F' [d] [v'] W1 → OReps K H' F' os (ioPick [true] [v]) W2 → Wf H' F' (W1 ++ W2) → Ext H F0 W H' F' (W1 ++ W2) → Q v' H'
        | .exn c x => ∀ cls d H' F', ExOk K mg H' F' c x cls d → Ext H F0 W H' F' [] → E cls d H'
        | .bad => False := hres
      by_cases hsp : spo (k + 1) d = true
      · rw [if_pos hsp] at hres
        have po : PassesOwn (model (cxOf (L2.CX P w) P w K mg base [Str.ofString "thing", Str.ofString "part"] nSpo (defScope st) a cdv A outer s H E).prog (cxOf (L2.CX P w) P w K mg base [Str.ofString "thing", Str.ofString "part"] nSpo (defScope st) a cdv A outer s H E).w) (cxOf (L2.CX P w) P w K mg base [Str.ofString "thing", Str.ofString "part"] nSpo (defScope st) a cdv A outer s H E).A (cxOf (L2.CX P w) P w K mg base [Str.ofString "thing", Str.ofString "part"] nSpo (defScope st) a cdv A outer s H E).env (cxOf (L2.CX P w) P w K mg base [Str.ofString "thing", Str.ofString "part"] nSpo (defScope st) a cdv A outer s H E).xe := passes_of rfl
        have tk : Takes (cxOf (L2.CX P w) P w K mg base [Str.ofString "thing", Str.ofString "part"] nSpo (defScope st) a cdv A outer s H E) (fun cls d _ H => E cls d H) := takes_of rfl rfl rfl rfl
        have GG : Good (cxOf (L2.CX P w) P w K mg base [Str.ofString "thing", Str.ofString "part"] nSpo (defScope st) a cdv A outer s H E) Z' (gamF [nSpo] bs [] kl [Str.ofString "thing", Str.ofString "part"] (defScope st)) E := by
          refine ⟨rfl, S.kind, rfl, S.nd, rfl, fun x hx => ?_, hbs, fun x hx => (nomatch hx), (by have := hr.un; show (A.deeper (PyProof.Rows.envOfC nSpo (defScope st) s.heap.objs.size a cdv)).units + 65 < cLine; omega), fun g hg => ?_⟩
          · obtain ⟨p, hp, rfl⟩ := List.mem_map.mp hx
            have := (List.mem_filter.mp hp).2
            simp only [Bool.or_eq_true, decide_eq_true_eq] at this
            exact ⟨this, .inl rfl⟩
          · have hg' : g ∈ [nSpo] := hg
            have : g = nSpo := by simpa using hg'
            subst this
            exact ⟨⟨a, fd, k + 1, i.mg, i.kp, ih, hr, i.bn, i.kw⟩, passes_call tk fun _ _ _ _ h => h, by decide⟩
        refine spo_body GG po hb (fun _ => rfl) rfl rfl r wf hsp fun σ' H' F' W2 r' w' x' => ?_
        have o : OReps K H' F' [some (spoil (k + 1) d)] [v] (W2 ++ []) := .cons r' .nil
        rw [List.append_nil] at o
        exact hres .non H' F' [] W2 (.non .nil) o (by simpa using w') (by simpa using x')
      · rw [if_neg hsp] at hres; exact hres.elim
end
end Q

namespace Q
open PySem L2 PySem.Spec

/-! ## the head -/
def dvI (is : List CV) : List He.Dv := is.map fun | .inl i => He.Dv.int i | .inr s => He.Dv.str s
def dN (K : PySem.W.Frag) (x : Str) : Bool := match K.lookup (He.ga K x) with | some o => o.dict.isNone | none => false
def tupN (K : PySem.W.Frag) (x : Str) (vs : List He.Dv) : Bool := He.tupB K x vs && dN K x
/-- the facts of the defs and names, and the tables of whole numbers -/
def hookQ (n : Nat) (fa : List He.Fa) (fn : List He.DefD) (tb : List (Str × List CV)) : PySem.W.Hook where
  α := He.AlD × Bool
  obs := fun s => (He.obsDG n fa fn s.heap.get?, tb.all fun q => tupN (He.frG s.heap.get? (He.asD s.heap.get? n)) q.1 (dvI q.2))
  val := fun _ => (He.valD fn, true)
  says := fun _ h => ∃ K : PySem.W.Frag, K.In h ∧ He.SaysD fa fn K ∧ (tb.all fun q => tupN K q.1 (dvI q.2)) = true
  of := fun _ _ e => ⟨_, He.frG_in, congrArg Prod.fst e, congrArg Prod.snd e⟩
  keeps := fun _ _ _ ⟨K, hK, c⟩ k => ⟨K, PySem.W.Frag.In.keeps hK k, c⟩
def obQ (n : Nat) (fa : List He.Fa) (fn : List He.DefD) (tb : List (Str × List CV)) (g : Addr → Option Obj) : He.AlD × Bool := (He.obsDG n fa fn g, tb.all fun q => tupN (He.frG g (He.asD g n)) q.1 (dvI q.2))
theorem obQ_eq {n : Nat} {fa : List He.Fa} {fn : List He.DefD} {tb : List (Str × List CV)} {g : Addr → Option Obj} {s : Shared} (h : ∀ a, g a = s.heap.get? a) : obQ n fa fn tb g = (hookQ n fa fn tb).obs s := by
  have e : g = s.heap.get? := funext h
  rw [e]; rfl
theorem says_mem {fa : List He.Fa} {fn : List He.DefD} {K : PySem.W.Frag} (c : He.SaysD fa fn K) {f : He.Fa} (h : f ∈ fa) : f.ok K = true := by
  obtain ⟨i, hi⟩ := List.getElem?_of_mem h
  exact c.fact i hi
def topOf (P : Program) (i : Nat) : Stmt := P.main.body.getD i (.Pass ⟨0, 0, 0, 0⟩)
def defOf (P : Program) (f : Str) (i : Nat) : He.DefD := ⟨(f, none), f, f, defArgs (topOf P i), defBody (topOf P i), defScope (topOf P i), [], []⟩
/-- which facts -/
def faOf (T : Tab) (bs : List Str) (tb : List (Str × List CV)) : List He.Fa := T.map (fun p => .glo p.1) ++ (bs.map He.Fa.free ++ tb.map fun q => .glo q.1)
def constG (tb : List (Str × List CV)) (x : Str) : Option D := match tb.lookup x with | some is => some (.tup (is.map cvD)) | none => none
def ksOf (kl : List (Str × List Str)) (f : Str) : List (List Str) := (kl.filter fun p => decide (p.1 = f)).map (·.2)
/-- how a def's arguments bind, by the text -/
structure BindOk (st : Stmt) (f : Str) (ps : List Str) (kss : List (List Str)) : Prop where
  pos : ∀ (kV doc pm : Value) (an : Option Addr) (cdv ct : Value) (us : List Value), us.length = ps.length → bindArgs (PySem.W.fnOf f f (defArgs st) (defBody st) (defScope st) .none kV doc pm an cdv ct) ⟨us, []⟩ = pure (ps.zip us)
  kw : ∀ ks ∈ kss, ∀ (kV doc pm : Value) (an : Option Addr) (cdv ct : Value) (ws : List Value), ws.length = ks.length → bindArgs (PySem.W.fnOf f f (defArgs st) (defBody st) (defScope st) .none kV doc pm an cdv ct) ⟨[], ks.zip ws⟩ = pure (ps.zip (permL (idxK ks ps) ws))
section
variable {P : Program} {w : World} {K : PySem.W.Frag} {mg : Str → Option Value} {base h : Heap}
theorem fnI_of {kl : List (Str × List Str)} {st : Stmt} {f : Str} {ps : List Str} {a : Addr} {fd : FuncData} (F : FunD K f f (defArgs st) (defBody st) (defScope st) [] [] a fd) (hm : mg f = some (.ref a)) (B : BindOk st f ps (ksOf kl f)) : FnI P w K mg base kl f ps a fd := by
  refine ⟨hm, F.kp, F.bindsN B.pos, fun ks hk => ⟨fun s us ws X l1 l2 => ?_, fun r r2 => Vals.perm (Vals.append r r2) _⟩⟩
  have hk' : ks ∈ ksOf kl f := List.mem_map.mpr ⟨(f, ks), List.mem_filter.mpr ⟨hk, by simp⟩, rfl⟩
  have : us = [] := List.eq_nil_of_length_eq_zero l1
  subst this
  obtain ⟨oc, od, dV, kV, doc, pm, an, cdv, ct, osl, rfl, lk, hcd, hD, hK⟩ := F.ex
  rcases hD with ⟨_, rfl⟩ | ⟨e, _⟩
  · exact .of_eq (B.kw ks hk' kV doc pm an cdv ct ws l2)
  · exact absurd rfl e
theorem reps_cvs {H : Hp} {F : Addr → Prop} : ∀ is : List CV, Reps K H F (is.map cvD) (is.map fun | .inl i => V.int i | .inr s => V.str s) []
  | [] => .nil
  | .inl i :: is => .int (reps_cvs is)
  | .inr s :: is => .str (reps_cvs is)
theorem reps_ints {H : Hp} {F : Addr → Prop} : ∀ is : List Int, Reps K H F (is.map D.int) (is.map V.int) []
  | [] => .nil
  | i :: is => .int (reps_ints is)
theorem dvI_v (is : List CV) : (dvI is).map (He.Dv.v K) = is.map fun | .inl i => V.int i | .inr s => V.str s := by
  unfold dvI
  rw [List.map_map]
  exact List.map_congr_left fun x _ => by cases x <;> rfl
/-- the table out of the head's facts -/
theorem tabI_of {T : Tab} {bs gs : List Str} {tb : List (Str × List CV)} {kl : List (Str × List Str)} {fn : List He.DefD} {c : Nat} (X : K.In h) (G : h.Ns mainGlobals mg) (s : He.SaysD (faOf T bs tb) fn K) (ht : (tb.all fun q => tupN K q.1 (dvI q.2)) = true)
    (hd : T.lookup ("__debug__" : Str) = none)
    (hf : ∀ p ∈ T, ∃ a fd, FnI P w K mg base kl p.1 p.2.ps a fd ∧ match p.2.prim with
      | none => ∃ st, FunD K p.1 p.1 (defArgs st) (defBody st) (defScope st) [] [] a fd ∧ chkFn (T.map (·.1)) bs gs kl p.2 st = true
      | some g => ∀ Z : EnvQ, Z.ar p.1 = p.2.ps → Z.md p.1 = p.2.md → (∀ ds, Z.call p.1 ds = g ds) → FnOk P w K mg base (L2.CX P w) (c + 1) a fd p.2.ps (SpF K mg Z p.1)) :
    TabI P w K mg base T (constG tb) bs gs kl c := by
  refine ⟨fun x hx => ?_, fun x hx d e => ?_, hd, fun f fn h => hf (f, fn) (PySem.mem_of_lookup h)⟩
  · exact He.free_ok X G (says_mem s (List.mem_append_right _ (List.mem_append_left _ (List.mem_map_of_mem hx))))
  · unfold constG at e
    split at e <;> simp only [Option.some.injEq, reduceCtorEq] at e
    rename_i is hl
    subst e
    have hm := PySem.mem_of_lookup hl
    have g := He.glo_ok X G (says_mem s (f := .glo x) (List.mem_append_right _ (List.mem_append_right _ (List.mem_map.mpr ⟨(x, is), hm, rfl⟩))))
    have t := List.all_eq_true.mp ht (x, is) hm
    refine ⟨.ref (He.ga K x), _, g, rfl, fun H F => ?_⟩
    simp only [tupN, Bool.and_eq_true] at t
    have sq := He.tupB_ok t.1 H
    rw [dvI_v] at sq
    have td : TDn K H (He.ga K x) := by
      have t2 := t.2
      unfold dN at t2
      split at t2
      · rename_i o ho
        refine .inr ⟨o, ho, ?_⟩
        cases hd : o.dict with
        | none => rfl
        | some _ => rw [hd] at t2; cases t2
      · cases t2
    have := Reps.tup (F := F) (W2 := []) ⟨sq, td⟩ (reps_cvs is) .nil
    simpa using this
/-- an entry of the text -/
theorem entry_of {T : Tab} {bs gs : List Str} {tb : List (Str × List CV)} {kl : List (Str × List Str)} {fn : List He.DefD} {c i j : Nat} (X : K.In h) (G : h.Ns mainGlobals mg) (s : He.SaysD (faOf T bs tb) fn K) {f : Str} {fd0 : FnD} (hT : (f, fd0) ∈ T) (hp : fd0.prim = none) (hi : fn[i]? = some (defOf P f j))
    (B : BindOk (topOf P j) f fd0.ps (ksOf kl f)) (ck : chkFn (T.map (·.1)) bs gs kl fd0 (topOf P j) = true) :
    ∃ a fd, FnI P w K mg base kl f fd0.ps a fd ∧ match fd0.prim with
      | none => ∃ st, FunD K f f (defArgs st) (defBody st) (defScope st) [] [] a fd ∧ chkFn (T.map (·.1)) bs gs kl fd0 st = true
      | some g => ∀ Z : EnvQ, Z.ar f = fd0.ps → Z.md f = fd0.md → (∀ ds, Z.call f ds = g ds) → FnOk P w K mg base (L2.CX P w) (c + 1) a fd fd0.ps (SpF K mg Z f) := by
  obtain ⟨fd, F⟩ := s.def_ i hi
  have g := He.glo_ok X G (says_mem s (f := .glo f) (List.mem_append_left _ (List.mem_map.mpr ⟨(f, fd0), hT, rfl⟩)))
  have F' : FunD K f f (defArgs (topOf P j)) (defBody (topOf P j)) (defScope (topOf P j)) [] [] (He.ga K f) fd := F
  refine ⟨He.ga K f, fd, fnI_of F' g B, ?_⟩
  rw [hp]
  exact ⟨topOf P j, F', ck⟩
/-- the entry of the def that spoils -/
theorem entry_spo {T : Tab} {bs gs : List Str} {tb : List (Str × List CV)} {kl : List (Str × List Str)} {fn : List He.DefD} {c i j : Nat} (X : K.In h) (G : h.Ns mainGlobals mg) (s : He.SaysD (faOf T bs tb) fn K) {fd0 : FnD} (hT : (nSpo, fd0) ∈ T) (hps : fd0.ps = [Str.ofString "thing"]) (hmd : fd0.md = [true]) (hp : fd0.prim = some (spoRun c)) (hi : fn[i]? = some (defOf P nSpo j))
    (B : BindOk (topOf P j) nSpo [Str.ofString "thing"] (ksOf kl nSpo)) (hsc : chkSc [Str.ofString "thing", Str.ofString "part"] [Str.ofString "thing"] (defScope (topOf P j)) = true) (ck : chkSpo (gamF [nSpo] bs [] kl [Str.ofString "thing", Str.ofString "part"] (defScope (topOf P j))) (defBody (topOf P j)) = true) :
    ∃ a fd, FnI P w K mg base kl nSpo fd0.ps a fd ∧ match fd0.prim with
      | none => ∃ st, FunD K nSpo nSpo (defArgs st) (defBody st) (defScope st) [] [] a fd ∧ chkFn (T.map (·.1)) bs gs kl fd0 st = true
      | some g => ∀ Z : EnvQ, Z.ar nSpo = fd0.ps → Z.md nSpo = fd0.md → (∀ ds, Z.call nSpo ds = g ds) → FnOk P w K mg base (L2.CX P w) (c + 1) a fd fd0.ps (SpF K mg Z nSpo) := by
  obtain ⟨fd, F⟩ := s.def_ i hi
  have g := He.glo_ok X G (says_mem s (f := .glo nSpo) (List.mem_append_left _ (List.mem_map.mpr ⟨(nSpo, fd0), hT, rfl⟩)))
  have F' : FunD K nSpo nSpo (defArgs (topOf P j)) (defBody (topOf P j)) (defScope (topOf P j)) [] [] (He.ga K nSpo) fd := F
  have fi : FnI P w K mg base kl nSpo [Str.ofString "thing"] (He.ga K nSpo) fd := fnI_of F' g B
  have hbs : ∀ x ∈ bs, mg x = none := fun x hx => He.free_ok X G (says_mem s (List.mem_append_right _ (List.mem_append_left _ (List.mem_map_of_mem hx))))
  refine ⟨He.ga K nSpo, fd, by rw [hps]; exact fi, ?_⟩
  rw [hp]
  intro Z za zm zc
  rw [hps] at za ⊢
  rw [hmd] at zm
  exact spo_ok F' fi hsc ck hbs c Z za zm zc
/-- the law's promise out of the plain fact -/
theorem law_sp {Z : EnvQ} {ns : List Int} (za : Z.ar ("law" : Str) = [("script" : Str)]) (zm : Z.md ("law" : Str) = []) (hz : Z.call ("law" : Str) [.frz (ns.map D.int)] = .ok (.bl true, [])) {H : Hp} {a : Addr} (hS : SqL K H a (ns.map V.int)) :
    SpF K mg Z ("law" : Str) [.ref a] H (fun v _ => v = .bl true) (fun _ _ _ => False) := by
  refine ⟨[.frz (ns.map D.int)], fun b => b = a ∧ H b ≠ none, [], by rw [za]; rfl, .frz ?_ (reps_ints ns) .nil, ⟨List.nodup_nil, (fun b m => nomatch m), fun b f => f.2⟩, by rw [zm]; rfl, ?_⟩
  · rcases hS with s | s
    · refine .inl ⟨s, rfl, ?_⟩
      rcases s with s | ⟨o, s⟩ <;> (rw [s]; exact fun z => nomatch z)
    · exact .inr s
  · rw [hz]
    intro v H' F' W1 W2 r _ _ _
    exact r.blI
/-- the law's def -/
theorem law_fn {T : Tab} {bs gs : List Str} {tb : List (Str × List CV)} {kl : List (Str × List Str)} {c N n j : Nat} {fd0 : FnD} {a : Addr} {fd : FuncData} (I : TabI P w K mg base T (constG tb) bs gs kl c) (F : FunD K ("law" : Str) ("law" : Str) (defArgs (topOf P j)) (defBody (topOf P j)) (defScope (topOf P j)) [] [] a fd)
    (hT : T.lookup ("law" : Str) = some fd0) (hp : fd0.prim = none) (ck : chkFn (T.map (·.1)) bs gs kl fd0 (topOf P j) = true) :
    FnOk P w K mg base (L2.CX P w) (n + c + 2) a fd fd0.ps (SpF K mg (envN T (constG tb) N (n + 1)) ("law" : Str)) := by
  refine fn_ok (k := n + c + 1) hT hp F ck I.hbs I.hgs fun g hg => ?_
  obtain ⟨fn', h'⟩ := lookup_key hg
  obtain ⟨a', fd', i', o'⟩ := tab_ok (N := N) I n g fn' h'
  rw [envN_ar h']
  refine ⟨fun z => ?_, a', fd', i', o'⟩
  rw [z, I.dbg] at h'; cases h'
end
end Q
namespace Q
open PySem L2 PySem.Spec
/-- the end of a law's head: a promise with exceptions that nobody sees -/
theorem walk_Q {l : PySem.W.OpenLaw} {m k : Nat} {q : Program} {loose : List Str} {XP : (Str → Option Value) → Heap → Prop} {YP : World → Heap → Prop} {d : DefRec}
    (hn : l.most = some m) (hm : m ≤ sizeLine) (hdf : d.params.defaults = []) (hr : Room k callerA)
    (F : ∀ (w : World) (mg : Str → Option Value) (fa : Addr) (h : Heap), YP w h → h.Ns mainGlobals mg → mg d.name = some (.ref fa) →
      ∃ (K : PySem.W.Frag) (fd : FuncData) (sp : Sp), K.In h ∧ (∀ (s : Shared) (u : Value), BindsTo s fd ⟨[u], []⟩ [(("script" : Str), u)]) ∧
        (∀ (H : Hp) (a : Addr) (ns : List Int), ns.length ≤ m → SqL K H a (ns.map V.int) → sp [.ref a] H (fun v _ => v = .bl true) fun _ _ _ => False) ∧
        ∀ base : Heap, K.In base → base.Ns mainGlobals mg → FnOk l.prog w K mg base (L2.CX l.prog w) k fa fd [("script" : Str)] sp) :
    PySem.W.WalkO q loose XP YP l.row.toRowW d [] (fun f vs => PySem.call f vs) := by
  refine Att.attach_call hn hdf fun w s0 s1 mg mb fa o pm cd doc a vs ns G Y ho hd hcd hmg hobj hints hlen hg => ?_
  obtain ⟨K, fd, sp, KX, hb, hsp, hF⟩ := F w mg fa _ Y G.T.g hmg
  refine law_call KX G.T.g G.T.b G.T.builtins G.T.nolimit hg hobj hints (by omega) hr hF hb (fun H _ hS => hsp H a ns hlen hS) fun H e s' z => ?_
  obtain ⟨_, _, _, _, _, _, _, _, _, _, _, _, no⟩ := z
  exact no
/-- a law out of its plain fact -/
theorem walk_T {l : PySem.W.OpenLaw} {m n c N i j : Nat} {q : Program} {loose : List Str} {XP : (Str → Option Value) → Heap → Prop} {d : DefRec} {T : Tab} {bs gs : List Str} {tb : List (Str × List CV)} {kl : List (Str × List Str)} {fn : List He.DefD} {fd0 : FnD} {nn : Nat}
    (hn : l.most = some m) (hm : m ≤ sizeLine) (hdf : d.params.defaults = []) (hr : Room (n + c + 2) callerA) (hname : d.name = ("law" : Str))
    (hd : T.lookup ("__debug__" : Str) = none) (hT : T.lookup ("law" : Str) = some fd0) (hp : fd0.prim = none) (hps : fd0.ps = [("script" : Str)]) (hmd : fd0.md = []) (hi : fn[i]? = some (defOf l.prog ("law" : Str) j)) (ck : chkFn (T.map (·.1)) bs gs kl fd0 (topOf l.prog j) = true) (B : BindOk (topOf l.prog j) ("law" : Str) [("script" : Str)] (ksOf kl ("law" : Str)))
    (hf : ∀ {w : World} {K : PySem.W.Frag} {mg : Str → Option Value} {base h : Heap}, K.In h → h.Ns mainGlobals mg → He.SaysD (faOf T bs tb) fn K → ∀ p ∈ T, ∃ a fd, FnI l.prog w K mg base kl p.1 p.2.ps a fd ∧ match p.2.prim with
      | none => ∃ st, FunD K p.1 p.1 (defArgs st) (defBody st) (defScope st) [] [] a fd ∧ chkFn (T.map (·.1)) bs gs kl p.2 st = true
      | some g => ∀ Z : EnvQ, Z.ar p.1 = p.2.ps → Z.md p.1 = p.2.md → (∀ ds, Z.call p.1 ds = g ds) → FnOk l.prog w K mg base (L2.CX l.prog w) (c + 1) a fd p.2.ps (SpF K mg Z p.1))
    (plain : ∀ ns : List Int, ns.length ≤ m → (envN T (constG tb) N (n + 1)).call ("law" : Str) [.frz (ns.map D.int)] = .ok (.bl true, [])) :
    PySem.W.WalkO q loose XP (hookQ nn (faOf T bs tb) fn tb).says l.row.toRowW d [] (fun f vs => PySem.call f vs) := by
  refine walk_Q hn hm hdf hr fun w mg fa h Y G hmg => ?_
  obtain ⟨K, X, s, t⟩ := Y
  obtain ⟨fd, F⟩ := s.def_ i hi
  have g := He.glo_ok X G (says_mem s (f := .glo ("law" : Str)) (List.mem_append_left _ (List.mem_map.mpr ⟨(("law" : Str), fd0), PySem.mem_of_lookup hT, rfl⟩)))
  rw [hname] at hmg
  have ea := hmg.symm.trans g
  cases ea
  have F' : FunD K ("law" : Str) ("law" : Str) (defArgs (topOf l.prog j)) (defBody (topOf l.prog j)) (defScope (topOf l.prog j)) [] [] (He.ga K ("law" : Str)) fd := F
  refine ⟨K, fd, SpF K mg (envN T (constG tb) N (n + 1)) ("law" : Str), X, fun s u => ?_, fun H a ns hl hS => law_sp (by rw [envN_ar hT, hps]) (by rw [envN_md hT, hmd]) (plain ns hl) hS, fun base bX bG => ?_⟩
  · exact FunD.bindsA (ps := [("script" : Str)]) F' B.pos s [u] rfl
  · have I : TabI l.prog w K mg base T (constG tb) bs gs kl c := tabI_of X G s t hd (hf X G s)
    have := law_fn (n := n) (N := N) I F' hT hp ck
    rw [hps] at this
    exact this
end Q

namespace Q
open PySem L2 PySem.Spec

/-! ## plain helps: loops over data -/
/-- a for whose body does not leave: F folds -/
theorem forRun_fold {tg : Tg} {body : Lcs → RS} {α β : Type} (V : α → β → Lcs) (dx : β → D) (step : α → β → α) (z : α → Lcs → Prop) :
    ∀ (xs : List β) (a : α) (L : Lcs), z a L → (∀ x ∈ xs, ∀ a L, z a L → ∃ L1 L2, tg.set (dx x) L = some L1 ∧ body L1 = .nx L2 ∧ z (step a x) L2) → ∃ L', forRun tg body (xs.map dx) L = .nx L' ∧ z (xs.foldl step a) L'
  | [], a, L, h, _ => ⟨L, rfl, h⟩
  | x :: xs, a, L, h, s => by
    obtain ⟨L1, L2, e1, e2, h2⟩ := s x List.mem_cons_self a L h
    obtain ⟨L', e3, h3⟩ := forRun_fold V dx step z xs (step a x) L2 h2 fun y m => s y (List.mem_cons_of_mem _ m)
    refine ⟨L', ?_, h3⟩
    rw [List.map_cons, forRun_cons, e1]
    simp only [e2, stepR]
    exact e3
/-- a comprehension whose parts leave the names as they are -/
theorem lcRun_pure {tg : Tg} {vs : List Nat} {cond : Lcs → Res (Bool × Lcs)} {elt : Lcs → Res (D × Lcs)} {β : Type} (dx : β → D) (p : β → Bool) (f : β → D) (W0 : Lcs) :
    ∀ (xs : List β) (L : Lcs), wipeL L vs = W0 → (∀ x ∈ xs, ∃ L1, tg.set (dx x) W0 = some L1 ∧ wipeL L1 vs = W0 ∧ cond L1 = .ok (p x, L1) ∧ (p x = true → elt L1 = .ok (f x, L1))) →
      ∃ Lf, lcRun tg vs cond elt (xs.map dx) L = .ok ((xs.filter p).map f, Lf) ∧ wipeL Lf vs = W0
  | [], L, h, _ => ⟨L, by rw [List.map_nil, lcRun]; rfl, h⟩
  | x :: xs, L, h, s => by
    obtain ⟨L1, e1, e2, e3, e4⟩ := s x List.mem_cons_self
    obtain ⟨Lf, e5, e6⟩ := lcRun_pure dx p f W0 xs L1 e2 fun y m => s y (List.mem_cons_of_mem _ m)
    refine ⟨Lf, ?_, e6⟩
    rw [List.map_cons, lcRun, h, e1]
    cases hp : p x with
    | false => rw [hp] at e3; simp only [e3, e5, List.filter_cons, hp, Bool.false_eq_true, if_false]
    | true => rw [hp] at e3; simp only [e3, e4 hp, e5, List.filter_cons, hp, if_true, List.map_cons]
theorem rngD_map (lo : Int) : ∀ n : Nat, rngD lo n = (List.range n).map fun k : Nat => D.int (lo + (k : Nat))
  | 0 => rfl
  | n + 1 => by
    rw [rngD, rngD_map (lo + 1) n, List.range_succ_eq_map, List.map_cons, List.map_map]
    congr 1
    · simp
    · apply List.map_congr_left
      intro k _
      simp only [Function.comp]
      congr 1
      omega

/-! ## the stream of draws -/
/-- what a stream is: the script's rest, the cell, the turn, the mix -/
def strD (ns : List Int) (a b c : Int) : D := .lst true [.lst true (ns.map D.int), .int a, .int b, .int c]

theorem toPys_ints : ∀ ns : List Int, D.toPys (ns.map D.int) = some (ns.map PyData.int)
  | [] => rfl
  | n :: ns => by simp [D.toPys, D.toPy, toPys_ints ns]
theorem lay_ints : ∀ ns : List Int, PyData.canLayAll0 (ns.map PyData.int) = true
  | [] => rfl
  | n :: ns => by simp [PyData.canLayAll0, PyData.canLay0, lay_ints ns]
theorem depth_ints : ∀ ns : List Int, PyData.depthAll (ns.map PyData.int) = 0
  | [] => rfl
  | n :: ns => by simp [PyData.depthAll, PyData.depth, depth_ints ns]
theorem eqE_ints (b : Bool) (ns : List Int) : eqD (.lst b (ns.map D.int)) (.lst false []) = some ns.isEmpty := by
  have h1 : SeqAt.shaped (.list (ns.map PyData.int)) = true := by simp [SeqAt.shaped, PyData.canLay0, lay_ints, PyData.depth, depth_ints]
  have h2 : SeqAt.shaped (.list []) = true := rfl
  simp only [eqD, D.toPy, toPys_ints, D.toPys, h1, h2, Bool.and_self, if_true]
  cases ns <;> rfl

def drawBody : Ss :=
 (.cons (.setx 0 [] (.int 2) (.p (.o2 .add (.o2 .ix (.var 0) (.int 2)) (.int 1))))
 (.cons (.whl (.p (.and (.o2 .eq (.o2 .ix (.var 0) (.int 1)) (.int 0)) (.o1 .neE (.o2 .ix (.var 0) (.int 0)))))
 (.cons (.asg (.nm 3) (.o1 .abs (.popi 0 [(.int 0)] (.cons (.p (.int 0)) .nil))))
 (.cons (.setx 0 [] (.int 3) (.p (.o2 .mod (.o1 .int1 (.o2 .add (.o2 .add (.o2 .mul (.o2 .ix (.var 0) (.int 3)) (.int 8191)) (.var 3)) (.int 3))) (.int 2147483647))))
 (.cons (.setx 0 [] (.int 1) (.ife (.p (.o2 .ge (.var 3) (.o2 .pow (.int 10) (.int 18)))) (.p (.var 3)) (.p (.int 0))))
 .nil))))
 (.cons (.ifs (.p (.o2 .gt (.o2 .ix (.var 0) (.int 1)) (.int 0)))
 (.cons (.asg (.nm 4) (.p (.o2 .mod (.o1 .int1 (.o2 .ix (.var 0) (.int 1))) (.var 1))))
 (.cons (.setx 0 [] (.int 1) (.p (.o2 .fdiv (.o2 .ix (.var 0) (.int 1)) (.var 1))))
 (.cons (.ret (.mv 4))
 .nil)))
 .nil)
 (.cons (.asg (.nm 2) (.p (.o2 .mod (.o1 .int1 (.o2 .pow (.o2 .add (.o2 .add (.o2 .ix (.var 0) (.int 3)) (.o2 .mul (.int 7919) (.o2 .ix (.var 0) (.int 2)))) (.int 104729)) (.int 5))) (.int 2147483629))))
 (.cons (.ret (.p (.o2 .mod (.o2 .mod (.o1 .int1 (.o2 .pow (.o2 .add (.o2 .add (.o2 .mul (.var 2) (.int 48271)) (.o2 .mul (.int 30011) (.o2 .ix (.var 0) (.int 2)))) (.int 29)) (.int 3))) (.int 1000000007)) (.var 1))))
 .nil)))))
section
variable {G : Str → Option D} {L : Lcs}
theorem pur2 {o : O2} {p q : P} {d e : D} (h1 : pur G p L = some d) (h2 : pur G q L = some e) : pur G (.o2 o p q) L = ap2 o d e := by simp only [pur, h1, h2]
theorem pur1 {o : O1} {p : P} {d : D} (h1 : pur G p L = some d) : pur G (.o1 o p) L = ap1 o d := by simp only [pur, h1]
theorem ap_mod {i j : Int} (h : j ≠ 0) : ap2 .mod (.int i) (.int j) = some (.int (i.fmod j)) := if_pos h
theorem ap_fdiv {i j : Int} (h : j ≠ 0 ∧ j.natAbs.log2 < 9000) : ap2 .fdiv (.int i) (.int j) = some (.int (i.fdiv j)) := if_pos h
theorem ap_mul {i j : Int} (h : i.natAbs.log2 + j.natAbs.log2 < 1000000) : ap2 .mul (.int i) (.int j) = some (.int (i * j)) := if_pos h
theorem ap_pow {i j : Int} (h : 0 ≤ j ∧ j ≤ 1000 ∧ i.natAbs < pow64) : ap2 .pow (.int i) (.int j) = some (.int (i ^ j.toNat)) := if_pos h
end
section
variable {V : EnvQ}
theorem at4 (x : D) (b c e : D) : atI [x, b, c, e] 0 = some x ∧ atI [x, b, c, e] 1 = some b ∧ atI [x, b, c, e] 2 = some c ∧ atI [x, b, c, e] 3 = some e := ⟨rfl, rfl, rfl, rfl⟩
theorem ix4 : ixN 4 0 = some 0 ∧ ixN 4 1 = some 1 ∧ ixN 4 2 = some 2 ∧ ixN 4 3 = some 3 := ⟨rfl, rfl, rfl, rfl⟩
/-- stream[k] = an int -/
theorem setx4 {i : Int} {j : Nat} (hi : ixN 4 i = some j) {e : E} {x : D} {x0 x1 x2 x3 : D} {L : Lcs} {p : P} (hp : e = .p p) (he : pur V.G p (some (.lst true [x0, x1, x2, x3]) :: L) = some x) (hx : x.noOwn = true) :
    runS V (.setx 0 [] (.int i) e) (some (.lst true [x0, x1, x2, x3]) :: L) = .nx (some (.lst true ([x0, x1, x2, x3].set j x)) :: L) := by
  subst hp
  rw [run_setx, den_p]
  simp only [keepP, he, hx, if_true, Res.seq, setxRun, List.getElem?_cons_zero, pathInts, pur, updPath, List.length_cons, List.length_nil, Nat.zero_add, Nat.reduceAdd, hi, RS.of, List.set]
theorem setx4E {i : Int} {j : Nat} (hi : ixN 4 i = some j) {e : E} {x : D} {x0 x1 x2 x3 : D} {L : Lcs} (he : den V e (some (.lst true [x0, x1, x2, x3]) :: L) = .ok (x, some (.lst true [x0, x1, x2, x3]) :: L)) :
    runS V (.setx 0 [] (.int i) e) (some (.lst true [x0, x1, x2, x3]) :: L) = .nx (some (.lst true ([x0, x1, x2, x3].set j x)) :: L) := by
  rw [run_setx, he]
  simp only [Res.seq, setxRun, List.getElem?_cons_zero, pathInts, pur, updPath, List.length_cons, List.length_nil, Nat.zero_add, Nat.reduceAdd, hi, RS.of, List.set]
/-- a name = a pure value of no list -/
theorem asgP {i : Nat} {p : P} {L : Lcs} {x : D} (he : pur V.G p L = some x) (hx : x.noOwn = true) : runS V (.asg (.nm i) (.p p)) L = .nx (L.set i (some x)) := by
  rw [run_asg, den_p]
  simp only [keepP, he, hx, if_true, Res.seq, Tg.set, RS.of]
theorem log2_lt {i : Int} {k : Nat} (hk : 0 < k) (h : i.natAbs < 2 ^ k) : i.natAbs.log2 < k := by
  by_cases hz : i.natAbs = 0
  · rw [hz]; simpa using hk
  · exact (Nat.log2_lt hz).mpr h

def drawWhl : S := .whl (.p (.and (.o2 .eq (.o2 .ix (.var 0) (.int 1)) (.int 0)) (.o1 .neE (.o2 .ix (.var 0) (.int 0)))))
 (.cons (.asg (.nm 3) (.o1 .abs (.popi 0 [(.int 0)] (.cons (.p (.int 0)) .nil))))
 (.cons (.setx 0 [] (.int 3) (.p (.o2 .mod (.o1 .int1 (.o2 .add (.o2 .add (.o2 .mul (.o2 .ix (.var 0) (.int 3)) (.int 8191)) (.var 3)) (.int 3))) (.int 2147483647))))
 (.cons (.setx 0 [] (.int 1) (.ife (.p (.o2 .ge (.var 3) (.o2 .pow (.int 10) (.int 18)))) (.p (.var 3)) (.p (.int 0))))
 .nil)))
def stL (ns : List Int) (a b c m : Int) (o2 o3 o4 : Option D) : Lcs := [some (strD ns a b c), some (.int m), o2, o3, o4]
theorem draw_cond (ns : List Int) (a b c m : Int) (o2 o3 o4 : Option D) :
    tst V (.p (.and (.o2 .eq (.o2 .ix (.var 0) (.int 1)) (.int 0)) (.o1 .neE (.o2 .ix (.var 0) (.int 0))))) (stL ns a b c m o2 o3 o4) = .ok (decide (a = 0) && !ns.isEmpty, stL ns a b c m o2 o3 o4) := by
  unfold tst
  rw [rdW_p]
  have e1 : pur V.G (.o2 .eq (.o2 .ix (.var 0) (.int 1)) (.int 0)) (stL ns a b c m o2 o3 o4) = some (.bl (decide (a = 0))) := rfl
  have e2 : pur V.G (.o1 .neE (.o2 .ix (.var 0) (.int 0))) (stL ns a b c m o2 o3 o4) = some (.bl (!ns.isEmpty)) := by
    have e3 : pur V.G (.o2 .ix (.var 0) (.int 0)) (stL ns a b c m o2 o3 o4) = some (.lst true (ns.map D.int)) := rfl
    simp only [pur.eq_7, e3, ap1, eqE_ints]
  simp only [pur.eq_9, e1]
  cases h : decide (a = 0) with
  | true => simp only [e2, tru, Res.of, Res.bind, Bool.true_and]
  | false => simp only [tru, Res.of, Res.bind, Bool.false_and]
theorem p18 : (10 : Int) ^ (18 : Int).toNat = 1000000000000000000 := by decide
theorem pop4 (x : Int) (ns : List Int) (a b c : Int) (L : Lcs) : popRun V.G 0 [.int 0] 0 (some (strD (x :: ns) a b c) :: L) = some (.int x, some (strD ns a b c) :: L) := by
  have e0 : ixN (ns.length + 1) 0 = some 0 := by unfold ixN; rw [if_pos (by decide), if_pos (by omega)]; rfl
  have e1 : updPath (fun ds => some (ds.eraseIdx 0)) (strD (x :: ns) a b c) [0] = some (strD ns a b c) := by
    simp only [strD, updPath, List.length_cons, List.length_nil, Nat.zero_add, Nat.reduceAdd, ix4.1, List.getElem?_cons_zero, List.map_cons, List.eraseIdx_cons_zero, List.set]
  simp only [popRun, List.getElem?_cons_zero, pathInts, pur]
  have e2 : atPath (strD (x :: ns) a b c) [0] = some (.lst true ((x :: ns).map D.int)) := rfl
  simp only [e2, List.length_map, List.length_cons, e0, List.map_cons, List.getElem?_cons_zero, e1, List.set]
theorem draw_turn (x : Int) (ns : List Int) (b c m : Int) (o2 o3 o4 : Option D) (hc : 0 ≤ c ∧ c < 2147483647) :
    ∃ a' c' : Int, ∃ o, 0 ≤ a' ∧ (0 ≤ c' ∧ c' < 2147483647) ∧ runSs V
 (.cons (.asg (.nm 3) (.o1 .abs (.popi 0 [(.int 0)] (.cons (.p (.int 0)) .nil))))
 (.cons (.setx 0 [] (.int 3) (.p (.o2 .mod (.o1 .int1 (.o2 .add (.o2 .add (.o2 .mul (.o2 .ix (.var 0) (.int 3)) (.int 8191)) (.var 3)) (.int 3))) (.int 2147483647))))
 (.cons (.setx 0 [] (.int 1) (.ife (.p (.o2 .ge (.var 3) (.o2 .pow (.int 10) (.int 18)))) (.p (.var 3)) (.p (.int 0))))
 .nil))) (stL (x :: ns) 0 b c m o2 o3 o4) = .nx (stL ns a' b c' m o2 o o4) := by
  let cell : Int := if x < 0 then -x else x
  have hcell : 0 ≤ cell := by show 0 ≤ (if x < 0 then -x else x); split <;> omega
  let c1 : Int := (c * 8191 + cell + 3).fmod 2147483647
  have hc1 : 0 ≤ c1 ∧ c1 < 2147483647 := ⟨Int.fmod_nonneg (by omega) (by decide), Int.fmod_lt_of_pos _ (by decide)⟩
  let a1 : Int := if 1000000000000000000 ≤ cell then cell else 0
  have ha1 : 0 ≤ a1 := by show 0 ≤ (if 1000000000000000000 ≤ cell then cell else 0); split <;> omega
  refine ⟨a1, c1, some (.int cell), ha1, hc1, ?_⟩
  have s1 : runS V (.asg (.nm 3) (.o1 .abs (.popi 0 [(.int 0)] (.cons (.p (.int 0)) .nil)))) (stL (x :: ns) 0 b c m o2 o3 o4) = .nx (stL ns 0 b c m o2 (some (.int cell)) o4) := by
    rw [run_asg, den_o1]
    show ((den V (.popi 0 [(.int 0)] (.cons (.p (.int 0)) .nil)) (stL (x :: ns) 0 b c m o2 o3 o4)).bind _).seq _ = _
    rw [den_pop2]
    simp only [purE, pur, Res.of, Res.bind, intOf, stL, pop4, ap1, Res.seq, Tg.set, RS.of, List.set]
    rfl
  have hm : c.natAbs.log2 + (8191 : Int).natAbs.log2 < 1000000 := by
    have : c.natAbs.log2 < 32 := log2_lt (by decide) (Nat.lt_of_lt_of_le (show c.natAbs < 2 ^ 32 by omega) (Nat.le_refl _))
    have h2 : (8191 : Int).natAbs.log2 = 12 := by decide
    omega
  have s2 : runS V (.setx 0 [] (.int 3) (.p (.o2 .mod (.o1 .int1 (.o2 .add (.o2 .add (.o2 .mul (.o2 .ix (.var 0) (.int 3)) (.int 8191)) (.var 3)) (.int 3))) (.int 2147483647)))) (stL ns 0 b c m o2 (some (.int cell)) o4) = .nx (stL ns 0 b c1 m o2 (some (.int cell)) o4) := by
    refine (setx4 (x := .int c1) ix4.2.2.2 rfl ?_ rfl).trans rfl
    simp only [pur, List.getElem?_cons_zero, List.getElem?_cons_succ, ap2, at4, hm, if_true, ap1]
    rfl
  have s3 : runS V (.setx 0 [] (.int 1) (.ife (.p (.o2 .ge (.var 3) (.o2 .pow (.int 10) (.int 18)))) (.p (.var 3)) (.p (.int 0)))) (stL ns 0 b c1 m o2 (some (.int cell)) o4) = .nx (stL ns a1 b c1 m o2 (some (.int cell)) o4) := by
    refine (setx4E (x := .int a1) ix4.2.1 ?_).trans rfl
    rw [den_ife, rdW_p]
    have e : pur V.G (.o2 .ge (.var 3) (.o2 .pow (.int 10) (.int 18))) (some (.lst true [.lst true (ns.map D.int), .int 0, .int b, .int c1]) :: [some (.int m), o2, some (.int cell), o4]) = some (.bl (decide (1000000000000000000 ≤ cell))) := by
      have e2 : pur V.G (.o2 .pow (.int 10) (.int 18)) (some (.lst true [.lst true (ns.map D.int), .int 0, .int b, .int c1]) :: [some (.int m), o2, some (.int cell), o4]) = some (.int 1000000000000000000) := by rfl
      simp only [pur.eq_8, e2, pur.eq_1, List.getElem?_cons_zero, List.getElem?_cons_succ, ap2]
    rw [e]
    by_cases h : 1000000000000000000 ≤ cell
    · have : a1 = cell := if_pos h
      rw [this]
      simp only [h, decide_true, tru, Res.of, Res.bind, if_true, den_p, keepP, pur, List.getElem?_cons_zero, List.getElem?_cons_succ, D.noOwn]
    · have : a1 = 0 := if_neg h
      rw [this]
      simp only [h, decide_false, tru, Res.of, Res.bind, Bool.false_eq_true, if_false, den_p, keepP, pur, D.noOwn, if_true]
  rw [runs_cons, s1]
  simp only [RS.seq]
  rw [runs_cons, s2]
  simp only [RS.seq]
  rw [runs_cons, s3]
  simp only [RS.seq]
  rw [runs_nil]

theorem draw_loop (m b : Int) (o2 o4 : Option D) : ∀ (ns : List Int) (fuel : Nat) (a c : Int) (o3 : Option D), ns.length < fuel → 0 ≤ a → (0 ≤ c ∧ c < 2147483647) →
    ∃ ns' a' c' o, ns'.length ≤ ns.length ∧ 0 ≤ a' ∧ (0 ≤ c' ∧ c' < 2147483647) ∧ whlRun (fun L => tst V (.p (.and (.o2 .eq (.o2 .ix (.var 0) (.int 1)) (.int 0)) (.o1 .neE (.o2 .ix (.var 0) (.int 0))))) L) (fun L => runSs V
 (.cons (.asg (.nm 3) (.o1 .abs (.popi 0 [(.int 0)] (.cons (.p (.int 0)) .nil))))
 (.cons (.setx 0 [] (.int 3) (.p (.o2 .mod (.o1 .int1 (.o2 .add (.o2 .add (.o2 .mul (.o2 .ix (.var 0) (.int 3)) (.int 8191)) (.var 3)) (.int 3))) (.int 2147483647))))
 (.cons (.setx 0 [] (.int 1) (.ife (.p (.o2 .ge (.var 3) (.o2 .pow (.int 10) (.int 18)))) (.p (.var 3)) (.p (.int 0))))
 .nil))) L) fuel (stL ns a b c m o2 o3 o4) = .nx (stL ns' a' b c' m o2 o o4) := by
  intro ns
  induction ns with
  | nil =>
    intro fuel a c o3 hf ha hc
    cases fuel with
    | zero => simp at hf
    | succ f =>
      refine ⟨[], a, c, o3, Nat.le_refl _, ha, hc, ?_⟩
      rw [whlRun_succ, draw_cond]
      simp [Res.seq]
  | cons x ns ih =>
    intro fuel a c o3 hf ha hc
    cases fuel with
    | zero => simp at hf
    | succ f =>
      by_cases h0 : a = 0
      · subst h0
        obtain ⟨a1, c1, o, h1, h2, e⟩ := draw_turn (V := V) x ns b c m o2 o3 o4 hc
        obtain ⟨ns', a', c', o', g1, g2, g3, g4⟩ := ih f a1 c1 o (by simpa using hf) h1 h2
        refine ⟨ns', a', c', o', Nat.le_succ_of_le g1, g2, g3, ?_⟩
        rw [whlRun_succ, draw_cond]
        simp only [Res.seq, decide_true, List.isEmpty_cons, Bool.not_false, Bool.and_self, if_true, e, stepR]
        exact g4
      · refine ⟨x :: ns, a, c, o3, Nat.le_refl _, ha, hc, ?_⟩
        rw [whlRun_succ, draw_cond]
        simp [Res.seq, h0]

/-- a draw: a number below m; the stream goes on -/
theorem draw_run {ns : List Int} {a b c m : Int} (hN : ns.length < V.N) (ha : 0 ≤ a) (hb : 0 ≤ b ∧ b < 1000000000000) (hc : 0 ≤ c ∧ c < 2147483647) (hm : 0 < m ∧ m < 1000000) :
    ∃ ns' a' c' L' k, ns'.length ≤ ns.length ∧ 0 ≤ a' ∧ (0 ≤ c' ∧ c' < 2147483647) ∧ (0 ≤ k ∧ k < m) ∧ runSs V drawBody [some (strD ns a b c), some (.int m), none, none, none] = .rt (.int k) (some (strD ns' a' (b + 1) c') :: L') := by
  have s1 : runS V (.setx 0 [] (.int 2) (.p (.o2 .add (.o2 .ix (.var 0) (.int 2)) (.int 1)))) [some (strD ns a b c), some (.int m), none, none, none] = .nx (stL ns a (b + 1) c m none none none) := (setx4 (x := .int (b + 1)) ix4.2.2.1 rfl rfl rfl).trans rfl
  obtain ⟨ns', a', c', o, g1, g2, g3, g4⟩ := draw_loop (V := V) m (b + 1) none none ns V.N a c none hN ha hc
  unfold drawBody
  rw [runs_cons, s1]
  simp only [RS.seq]
  rw [runs_cons, run_whl, g4]
  simp only [RS.seq]
  have lm : m.natAbs.log2 < 9000 := Nat.lt_of_lt_of_le (log2_lt (k := 32) (by decide) (by omega)) (by decide)
  have e1 : ∀ (p q : Ss), runS V (.ifs (.p (.o2 .gt (.o2 .ix (.var 0) (.int 1)) (.int 0))) p q) (stL ns' a' (b + 1) c' m none o none) = if 0 < a' then runSs V p (stL ns' a' (b + 1) c' m none o none) else runSs V q (stL ns' a' (b + 1) c' m none o none) := by
    intro p q
    rw [run_ifs, rdW_p]
    have : pur V.G (.o2 .gt (.o2 .ix (.var 0) (.int 1)) (.int 0)) (stL ns' a' (b + 1) c' m none o none) = some (.bl (decide (0 < a'))) := rfl
    rw [this]
    by_cases h : 0 < a' <;> simp [Res.seq, Res.of, tru, h]
  rw [runs_cons, e1]
  by_cases h : 0 < a'
  · rw [if_pos h]
    refine ⟨ns', a'.fdiv m, c', [some (.int m), none, o, none], a'.fmod m, g1, ?_, g3, ⟨Int.fmod_nonneg (by omega) (by omega), Int.fmod_lt_of_pos _ hm.1⟩, ?_⟩
    · rw [Int.fdiv_eq_ediv_of_nonneg _ (by omega)]; exact Int.ediv_nonneg (by omega) (by omega)
    · have hm0 : m ≠ 0 := by omega
      have s2 : runS V (.asg (.nm 4) (.p (.o2 .mod (.o1 .int1 (.o2 .ix (.var 0) (.int 1))) (.var 1)))) (stL ns' a' (b + 1) c' m none o none) = .nx (stL ns' a' (b + 1) c' m none o (some (.int (a'.fmod m)))) := by
        exact (asgP (x := .int (a'.fmod m)) ((pur2 (d := .int a') (e := .int m) rfl rfl).trans (ap_mod hm0)) rfl).trans rfl
      have s3 : runS V (.setx 0 [] (.int 1) (.p (.o2 .fdiv (.o2 .ix (.var 0) (.int 1)) (.var 1)))) (stL ns' a' (b + 1) c' m none o (some (.int (a'.fmod m)))) = .nx (stL ns' (a'.fdiv m) (b + 1) c' m none o (some (.int (a'.fmod m)))) := by
        exact (setx4 (x := .int (a'.fdiv m)) ix4.2.1 rfl ((pur2 (d := .int a') (e := .int m) rfl rfl).trans (ap_fdiv ⟨hm0, lm⟩)) rfl).trans rfl
      rw [runs_cons, s2]
      simp only [RS.seq]
      rw [runs_cons, s3]
      simp only [RS.seq]
      rw [runs_cons, run_ret, den_mv]
      rfl
  · rw [if_neg h, runs_nil]
    simp only [RS.seq]
    refine ⟨ns', a', c', [some (.int m), some (.int (((c' + 7919 * (b + 1) + 104729) ^ 5).fmod 2147483629)), o, none], (((((c' + 7919 * (b + 1) + 104729) ^ 5).fmod 2147483629) * 48271 + 30011 * (b + 1) + 29) ^ 3).fmod 1000000007 |>.fmod m, g1, g2, g3, ⟨Int.fmod_nonneg (Int.fmod_nonneg ?_ (by decide)) (by omega), Int.fmod_lt_of_pos _ hm.1⟩, ?_⟩
    · have h1 : 0 ≤ ((c' + 7919 * (b + 1) + 104729) ^ 5).fmod 2147483629 := Int.fmod_nonneg (Int.pow_nonneg (by omega)) (by decide)
      exact Int.pow_nonneg (by omega)
    · have hm0 : m ≠ 0 := by omega
      have hbig : (c' + 7919 * (b + 1) + 104729).natAbs < pow64 := Nat.lt_of_lt_of_le (show _ < 2 ^ 63 by omega) (by decide)
      have hx0 : 0 ≤ ((c' + 7919 * (b + 1) + 104729) ^ 5).fmod 2147483629 := Int.fmod_nonneg (Int.pow_nonneg (by omega)) (by decide)
      have hx1 : ((c' + 7919 * (b + 1) + 104729) ^ 5).fmod 2147483629 < 2147483629 := Int.fmod_lt_of_pos _ (by decide)
      have t1 : (7919 : Int).natAbs.log2 + (b + 1).natAbs.log2 < 1000000 := by
        have h1 : (7919 : Int).natAbs.log2 = 12 := by decide
        have h2 : (b + 1).natAbs.log2 < 41 := log2_lt (by decide) (by omega)
        omega
      have t2 : (30011 : Int).natAbs.log2 + (b + 1).natAbs.log2 < 1000000 := by
        have h1 : (30011 : Int).natAbs.log2 = 14 := by decide
        have h2 : (b + 1).natAbs.log2 < 41 := log2_lt (by decide) (by omega)
        omega
      have s2 : runS V (.asg (.nm 2) (.p (.o2 .mod (.o1 .int1 (.o2 .pow (.o2 .add (.o2 .add (.o2 .ix (.var 0) (.int 3)) (.o2 .mul (.int 7919) (.o2 .ix (.var 0) (.int 2)))) (.int 104729)) (.int 5))) (.int 2147483629)))) (stL ns' a' (b + 1) c' m none o none) = .nx (stL ns' a' (b + 1) c' m (some (.int (((c' + 7919 * (b + 1) + 104729) ^ 5).fmod 2147483629))) o none) := by
        refine (asgP (x := .int (((c' + 7919 * (b + 1) + 104729) ^ 5).fmod 2147483629)) ((pur2 (d := .int ((c' + 7919 * (b + 1) + 104729) ^ 5)) (e := .int 2147483629) ((pur1 (d := .int ((c' + 7919 * (b + 1) + 104729) ^ 5)) ?_).trans rfl) rfl).trans (ap_mod (by decide))) rfl).trans rfl
        refine (pur2 (d := .int (c' + 7919 * (b + 1) + 104729)) (e := .int 5) ?_ rfl).trans (ap_pow ⟨by decide, by decide, hbig⟩)
        refine (pur2 (d := .int (c' + 7919 * (b + 1))) (e := .int 104729) ?_ rfl).trans rfl
        refine (pur2 (d := .int c') (e := .int (7919 * (b + 1))) rfl ?_).trans rfl
        exact (pur2 (d := .int 7919) (e := .int (b + 1)) rfl rfl).trans (ap_mul t1)
      rw [runs_cons, s2]
      simp only [RS.seq]
      rw [runs_cons, run_ret, den_p]
      generalize ((c' + 7919 * (b + 1) + 104729) ^ 5).fmod 2147483629 = x at hx0 hx1
      have t3 : x.natAbs.log2 + (48271 : Int).natAbs.log2 < 1000000 := by
        have h1 : (48271 : Int).natAbs.log2 = 15 := by decide
        have h2 : x.natAbs.log2 < 32 := log2_lt (by decide) (by omega)
        omega
      have hbig2 : (x * 48271 + 30011 * (b + 1) + 29).natAbs < pow64 := Nat.lt_of_lt_of_le (show _ < 2 ^ 63 by omega) (by decide)
      have e : pur V.G (.o2 .mod (.o2 .mod (.o1 .int1 (.o2 .pow (.o2 .add (.o2 .add (.o2 .mul (.var 2) (.int 48271)) (.o2 .mul (.int 30011) (.o2 .ix (.var 0) (.int 2)))) (.int 29)) (.int 3))) (.int 1000000007)) (.var 1)) (stL ns' a' (b + 1) c' m (some (.int x)) o none) = some (.int ((((x * 48271 + 30011 * (b + 1) + 29) ^ 3).fmod 1000000007).fmod m)) := by
        refine (pur2 (d := .int (((x * 48271 + 30011 * (b + 1) + 29) ^ 3).fmod 1000000007)) (e := .int m) ?_ rfl).trans (ap_mod hm0)
        refine (pur2 (d := .int ((x * 48271 + 30011 * (b + 1) + 29) ^ 3)) (e := .int 1000000007) ((pur1 (d := .int ((x * 48271 + 30011 * (b + 1) + 29) ^ 3)) ?_).trans rfl) rfl).trans (ap_mod (by decide))
        refine (pur2 (d := .int (x * 48271 + 30011 * (b + 1) + 29)) (e := .int 3) ?_ rfl).trans (ap_pow ⟨by decide, by decide, hbig2⟩)
        refine (pur2 (d := .int (x * 48271 + 30011 * (b + 1))) (e := .int 29) ?_ rfl).trans rfl
        refine (pur2 (d := .int (x * 48271)) (e := .int (30011 * (b + 1))) ?_ ?_).trans rfl
        · exact (pur2 (d := .int x) (e := .int 48271) rfl rfl).trans (ap_mul t3)
        · exact (pur2 (d := .int 30011) (e := .int (b + 1)) rfl rfl).trans (ap_mul t2)
      simp only [keepP, e, D.noOwn, if_true, Res.seq]
      rfl
end
end Q

namespace Q
open PySem L2 PySem.Spec
/-! ## _law_same -/
def nSame : Str := Str.ofString "_law_same"
def sameBody : Ss :=
 (.cons (.ifs (.p (.o1 (.isi ["list", "tuple"]) (.var 1)))
 (.cons (.ifs (.p (.or (.o2 .ne (.o1 (.isi ["list"]) (.var 0)) (.o1 (.isi ["list"]) (.var 1))) (.o2 .ne (.o1 (.isi ["tuple"]) (.var 0)) (.o1 (.isi ["tuple"]) (.var 1)))))
 (.cons (.ret (.p (.bl false)))
 .nil)
 .nil)
 (.cons (.ret (.and (.p (.o2 .eq (.o1 .len (.var 0)) (.o1 .len (.var 1)))) (.sq .all (.lc [2, 3] (.tup [2, 3]) (.zip (.p (.var 0)) (.p (.var 1))) .nil (.call nSame [] (.cons (.p (.var 2)) (.cons (.p (.var 3)) .nil)))))))
 .nil))
 .nil)
 (.cons (.ifs (.p (.o1 (.isi ["dict"]) (.var 1)))
 (.cons .nev
 .nil)
 .nil)
 (.cons (.ifs (.p (.or (.o1 (.isi ["bool"]) (.var 1)) (.o1 (.isi ["bool"]) (.var 0))))
 (.cons (.ret (.p (.and (.o1 (.isi ["bool"]) (.var 1)) (.and (.o1 (.isi ["bool"]) (.var 0)) (.o2 .eq (.var 0) (.var 1))))))
 .nil)
 .nil)
 (.cons (.ifs (.p (.or (.o1 .isN (.var 1)) (.o1 .isN (.var 0))))
 (.cons (.ret (.p (.and (.o1 .isN (.var 1)) (.o1 .isN (.var 0)))))
 .nil)
 .nil)
 (.cons (.ifs (.p (.or (.o2 .ne (.o1 (.isi ["int"]) (.var 1)) (.o1 (.isi ["int"]) (.var 0))) (.o2 .ne (.o1 (.isi ["str"]) (.var 1)) (.o1 (.isi ["str"]) (.var 0)))))
 (.cons (.ret (.p (.bl false)))
 .nil)
 .nil)
 (.cons (.ret (.p (.and (.o1 .not (.o1 (.isi ["list", "tuple", "dict"]) (.var 0))) (.o2 .eq (.var 0) (.var 1)))))
 .nil))))))
/-- data that are the same, k deep -/
def sm : Nat → D → D → Bool
  | 0, _, _ => false
  | k + 1, d, e => match d, e with
    | .int i, .int j => decide (i = j)
    | .bl a, .bl b => a == b
    | .non, .non => true
    | .str i, .str j => decide (i = j) && SeqAt.shaped (.str i)
    | .tup xs, .tup ys => decide (xs.length = ys.length) && (xs.zip ys).all fun p => sm k p.1 p.2
    | .lst _ xs, .lst _ ys => decide (xs.length = ys.length) && (xs.zip ys).all fun p => sm k p.1 p.2
    | _, _ => false
section
variable {V : EnvQ} {L : Lcs}
/-- a test of a pure thing -/
theorem ifsP {p : P} {a b : Ss} {k : Bool} (h : pur V.G p L = some (.bl k)) : runS V (.ifs (.p p) a b) L = if k then runSs V a L else runSs V b L := by
  rw [run_ifs, rdW_p, h]; rfl
theorem retP {p : P} {x : D} (h : pur V.G p L = some x) (hx : x.noOwn = true) : runS V (.ret (.p p)) L = .rt x L := by
  rw [run_ret, den_p]
  simp only [keepP, h, hx, if_true, Res.seq]
theorem ret_and {a b : E} {L1 L2 : Lcs} {k : Bool} (h1 : rdW V a (fun L => den V a L) L = .ok (.bl true, L1)) (h2 : rdW V b (fun L => den V b L) L1 = .ok (.bl k, L2)) : runS V (.ret (.and a b)) L = .rt (.bl k) L2 := by
  rw [run_ret, den_and, h1]
  show (((rdW V b (fun L => den V b L) L1).bind _)).seq _ = _
  rw [h2]; rfl
theorem ret_andE {a b : E} {L1 L2 : Lcs} {k : Bool} (hb : isP b = false) (h1 : rdW V a (fun L => den V a L) L = .ok (.bl true, L1)) (h2 : den V b L1 = .ok (.bl k, L2)) : runS V (.ret (.and a b)) L = .rt (.bl k) L2 := by
  refine ret_and h1 ?_
  cases b <;> first | exact h2 | (simp [isP] at hb)
def notVar : E → Bool
  | .p (.var _) => false
  | _ => true
theorem arg_bor {i : Nat} {d : D} {ms : List Bool} {es : Es} {as : List Arg} {L2 : Lcs} (hm : ms.headD false = false) (h : L[i]? = some (some d)) (h2 : args V ms.tail es L = .ok (as, L2)) : args V ms (.cons (.p (.var i)) es) L = .ok (.bor i :: as, L2) := by
  rw [args_cons, hm]
  have : argW false (.p (.var i)) (fun L => den V (.p (.var i)) L) L = .ok (.bor i, L) := by unfold argW; simp only [h]
  rw [this]
  show ((args V ms.tail es L).bind _) = _
  rw [h2]; rfl
theorem arg_io {i : Nat} {d : D} {ms : List Bool} {es : Es} {as : List Arg} {L2 : Lcs} (hm : ms.headD false = true) (h : L[i]? = some (some d)) (h2 : args V ms.tail es L = .ok (as, L2)) : args V ms (.cons (.p (.var i)) es) L = .ok (.io i :: as, L2) := by
  rw [args_cons, hm]
  have : argW true (.p (.var i)) (fun L => den V (.p (.var i)) L) L = .ok (.io i, L) := by unfold argW; simp only [h]
  rw [this]
  show ((args V ms.tail es L).bind _) = _
  rw [h2]; rfl
theorem arg_val {e : E} {d : D} {ms : List Bool} {es : Es} {as : List Arg} {L1 L2 : Lcs} (hm : ms.headD false = false) (hv : notVar e = true) (h : den V e L = .ok (d, L1)) (h2 : args V ms.tail es L1 = .ok (as, L2)) : args V ms (.cons e es) L = .ok (.val d :: as, L2) := by
  rw [args_cons, hm]
  have : argW false e (fun L => den V e L) L = .ok (.val d, L1) := by
    unfold argW
    cases e with
    | p p => cases p <;> first | (simp [notVar] at hv; done) | (simp only [h, Res.bind])
    | _ => simp only [h, Res.bind]
  rw [this]
  show ((args V ms.tail es L1).bind _) = _
  rw [h2]; rfl
theorem same_int (i : Int) : runSs V sameBody [some (.int i), some (.int i), none, none] = .rt (.bl true) [some (.int i), some (.int i), none, none] := by
  unfold sameBody
  rw [runs_cons, ifsP (k := false) rfl]
  simp only [Bool.false_eq_true, if_false, runs_nil, RS.seq]
  rw [runs_cons, ifsP (k := false) rfl]
  simp only [Bool.false_eq_true, if_false, runs_nil, RS.seq]
  rw [runs_cons, ifsP (k := false) rfl]
  simp only [Bool.false_eq_true, if_false, runs_nil, RS.seq]
  rw [runs_cons, ifsP (k := false) rfl]
  simp only [Bool.false_eq_true, if_false, runs_nil, RS.seq]
  rw [runs_cons, ifsP (k := false) rfl]
  simp only [Bool.false_eq_true, if_false, runs_nil, RS.seq]
  have e : pur V.G (.and (.o1 .not (.o1 (.isi ["list", "tuple", "dict"]) (.var 0))) (.o2 .eq (.var 0) (.var 1))) [some (.int i), some (.int i), none, none] = some (.bl true) := by
    have : pur V.G (.o2 .eq (.var 0) (.var 1)) [some (.int i), some (.int i), none, none] = some (.bl (decide (i = i))) := rfl
    rw [decide_eq_true rfl] at this
    exact this
  rw [runs_cons, retP e rfl]
  rfl
theorem same_bl (i : Bool) : runSs V sameBody [some (.bl i), some (.bl i), none, none] = .rt (.bl true) [some (.bl i), some (.bl i), none, none] := by
  unfold sameBody
  rw [runs_cons, ifsP (k := false) rfl]
  simp only [Bool.false_eq_true, if_false, runs_nil, RS.seq]
  rw [runs_cons, ifsP (k := false) rfl]
  simp only [Bool.false_eq_true, if_false, runs_nil, RS.seq]
  rw [runs_cons, ifsP (k := true) rfl]
  simp only [if_true]
  rw [runs_cons, retP (x := .bl true) (by cases i <;> rfl) rfl]
  rfl
theorem same_non : runSs V sameBody [some .non, some .non, none, none] = .rt (.bl true) [some .non, some .non, none, none] := by
  unfold sameBody
  rw [runs_cons, ifsP (k := false) rfl]
  simp only [Bool.false_eq_true, if_false, runs_nil, RS.seq]
  rw [runs_cons, ifsP (k := false) rfl]
  simp only [Bool.false_eq_true, if_false, runs_nil, RS.seq]
  rw [runs_cons, ifsP (k := false) rfl]
  simp only [Bool.false_eq_true, if_false, runs_nil, RS.seq]
  rw [runs_cons, ifsP (k := true) rfl]
  simp only [if_true]
  rw [runs_cons, retP (x := .bl true) rfl rfl]
  rfl
theorem eqStr {i : Str} (hi : SeqAt.shaped (.str i) = true) : eqD (.str i) (.str i) = some true := by
  have h : (SeqAt.shaped (.str i) && SeqAt.shaped (.str i)) = true := by rw [hi]; rfl
  simp only [eqD, D.toPy]
  rw [if_pos h]
  show some (i == i) = _
  simp
theorem same_str {i : Str} (hi : SeqAt.shaped (.str i) = true) : runSs V sameBody [some (.str i), some (.str i), none, none] = .rt (.bl true) [some (.str i), some (.str i), none, none] := by
  unfold sameBody
  rw [runs_cons, ifsP (k := false) rfl]
  simp only [Bool.false_eq_true, if_false, runs_nil, RS.seq]
  rw [runs_cons, ifsP (k := false) rfl]
  simp only [Bool.false_eq_true, if_false, runs_nil, RS.seq]
  rw [runs_cons, ifsP (k := false) rfl]
  simp only [Bool.false_eq_true, if_false, runs_nil, RS.seq]
  rw [runs_cons, ifsP (k := false) rfl]
  simp only [Bool.false_eq_true, if_false, runs_nil, RS.seq]
  rw [runs_cons, ifsP (k := false) rfl]
  simp only [Bool.false_eq_true, if_false, runs_nil, RS.seq]
  have e : pur V.G (.and (.o1 .not (.o1 (.isi ["list", "tuple", "dict"]) (.var 0))) (.o2 .eq (.var 0) (.var 1))) [some (.str i), some (.str i), none, none] = some (.bl true) := by
    have h : pur V.G (.o2 .eq (.var 0) (.var 1)) [some (.str i), some (.str i), none, none] = some (.bl true) := by
      show (match eqD (.str i) (.str i) with | some b => some (D.bl b) | none => none) = _
      rw [eqStr hi]
    exact h
  rw [runs_cons, retP e rfl]
  rfl
theorem zip2_map : ∀ xs ys : List D, zip2D xs ys = (xs.zip ys).map fun p => D.tup [p.1, p.2]
  | [], ys => by cases ys <;> rfl
  | x :: xs, [] => rfl
  | x :: xs, y :: ys => by simp [zip2D, zip2_map xs ys]
theorem bools_true {α : Type} : ∀ xs : List α, bools? (xs.map fun _ => D.bl true) = some (xs.map fun _ => true)
  | [] => rfl
  | x :: xs => by simp [bools?, bools_true xs]
/-- two lists or two tuples -/
theorem same_seq {d e : D} {xs ys : List D} (hd : d.fz = d) (he : e.fz = e) (nd : d.noOwn = true) (ne : e.noOwn = true) (hz : zipRun d e = some (zip2D xs ys)) (hn : ∀ x ∈ xs, x.fz = x ∧ x.noOwn = true) (hm : ∀ x ∈ ys, x.fz = x ∧ x.noOwn = true) (hl : ap1 .len d = some (.int xs.length)) (hl2 : ap1 .len e = some (.int xs.length))
    (t1 : pur V.G (.o1 (.isi ["list", "tuple"]) (.var 1)) [some d, some e, none, none] = some (.bl true))
    (t2 : pur V.G (.or (.o2 .ne (.o1 (.isi ["list"]) (.var 0)) (.o1 (.isi ["list"]) (.var 1))) (.o2 .ne (.o1 (.isi ["tuple"]) (.var 0)) (.o1 (.isi ["tuple"]) (.var 1)))) [some d, some e, none, none] = some (.bl false))
    (md : V.md nSame = []) (ar : V.ar nSame = [Str.ofString "found", Str.ofString "due"]) (hc : ∀ p ∈ xs.zip ys, V.call nSame [p.1, p.2] = .ok (.bl true, [])) :
    ∃ L', runSs V sameBody [some d, some e, none, none] = .rt (.bl true) L' := by
  unfold sameBody
  rw [runs_cons, ifsP t1]
  simp only [if_true]
  rw [runs_cons, ifsP t2]
  simp only [Bool.false_eq_true, if_false, runs_nil, RS.seq]
  have e1 : pur V.G (.o2 .eq (.o1 .len (.var 0)) (.o1 .len (.var 1))) [some d, some e, none, none] = some (.bl true) := by
    refine (pur2 ((pur1 (d := d) rfl).trans hl) ((pur1 (d := e) rfl).trans hl2)).trans ?_
    simp [ap2, eqD]
  have e2 : src V (.zip (.p (.var 0)) (.p (.var 1))) [some d, some e, none, none] = .ok (zip2D xs ys, [some d, some e, none, none]) := by
    rw [src_zip, den_p]
    have k1 : keepP V.G (.var 0) [some d, some e, none, none] = .ok (d, [some d, some e, none, none]) := by simp [keepP, pur, nd]
    have k2 : keepP V.G (.var 1) [some d, some e, none, none] = .ok (e, [some d, some e, none, none]) := by simp [keepP, pur, ne]
    rw [k1]
    simp only [Res.bind]
    rw [den_p, k2]
    simp only [Res.bind, hd, he, hz, Res.of]
  obtain ⟨Lf, e3, e4⟩ := lcRun_pure (tg := .tup [2, 3]) (vs := [2, 3]) (cond := fun L => conds V .nil L) (elt := fun L => den V (.call nSame [] (.cons (.p (.var 2)) (.cons (.p (.var 3)) .nil))) L) (fun p : D × D => .tup [p.1, p.2]) (fun _ => true) (fun _ => .bl true) [some d, some e, none, none] (xs.zip ys) [some d, some e, none, none] rfl (fun p hp => by
    have m1 := hn p.1 (List.of_mem_zip hp).1
    have m2 := hm p.2 (List.of_mem_zip hp).2
    refine ⟨[some d, some e, some p.1, some p.2], rfl, rfl, by rw [conds_nil], fun _ => ?_⟩
    rw [den_call, md, arg_bor (d := p.1) rfl rfl (arg_bor (d := p.2) rfl rfl (args_nil V _ _))]
    simp only [Res.bind, ar, List.length_cons, List.length_nil, if_true]
    unfold callRun
    have v1 : argVals [.bor 2, .bor 3] [some d, some e, some p.1, some p.2] = some ([p.1, p.2], [some d, some e, some p.1, some p.2]) := by
      simp [argVals, m1.1, m2.1]
    rw [v1]
    have v2 : lentOk [.bor 2, .bor 3] [some d, some e, some p.1, some p.2] = true := rfl
    simp only [v2, if_true, hc p hp, D.noSh, outNoSh, Bool.and_self, putBack])
  rw [zip2_map] at e2
  have ft : (xs.zip ys).filter (fun _ => true) = xs.zip ys := List.filter_eq_self.mpr fun _ _ => rfl
  have e5 : den V (.sq .all (.lc [2, 3] (.tup [2, 3]) (.zip (.p (.var 0)) (.p (.var 1))) .nil (.call nSame [] (.cons (.p (.var 2)) (.cons (.p (.var 3)) .nil))))) [some d, some e, none, none] = .ok (.bl true, resetTo [some d, some e, none, none] (wipeL Lf [2, 3]) [2, 3]) := by
    rw [den_sq]
    show ((den V (.lc [2, 3] (.tup [2, 3]) (.zip (.p (.var 0)) (.p (.var 1))) .nil (.call nSame [] (.cons (.p (.var 2)) (.cons (.p (.var 3)) .nil)))) [some d, some e, none, none]).bind _) = _
    rw [den_lc, e2]
    simp only [Res.bind, e3, ft, apS, bools_true]
    simp [Res.of]
  refine ⟨resetTo [some d, some e, none, none] (wipeL Lf [2, 3]) [2, 3], ?_⟩
  rw [runs_cons, ret_andE (L1 := [some d, some e, none, none]) (k := true) rfl (by rw [rdW_p, e1]) e5]
  rfl
theorem noOwns_mem {ds : List D} (h : D.noOwns ds = true) : ∀ x ∈ ds, x.noOwn = true := fun x hx => by
  rw [noOwns_eq] at h
  exact List.all_eq_true.mp h x hx
theorem fzs_mem {ds : List D} (h : D.fzs ds = ds) : ∀ x ∈ ds, x.fz = x := fun x hx => by
  rw [fzs_eq] at h
  obtain ⟨i, hi, rfl⟩ := List.getElem_of_mem hx
  have := congrArg (fun l => l[i]?) h
  simpa [hi] using this
/-- the same things are told to be the same -/
theorem same_ok : ∀ (k : Nat) {d e : D} {T : Tab} {G : Str → Option D} {N m : Nat} {fn : FnD}, k ≤ m → T.lookup nSame = some fn → fn.prim = none → fn.md = [] → fn.ps = [Str.ofString "found", Str.ofString "due"] → fn.N.length = 4 → fn.body = sameBody → d.fz = d → e.fz = e → d.noOwn = true → e.noOwn = true → sm k d e = true →
    (envN T G N m).call nSame [d, e] = .ok (.bl true, [])
  | 0, d, e, T, G, N, m, fn, _, _, _, _, _, _, _, _, _, _, _, h => by simp [sm] at h
  | k + 1, d, e, T, G, N, m, fn, hk, hT, hp, hmd, hps, hN, hb, fd, fe, nd, ne, h => by
    obtain ⟨m, rfl⟩ : ∃ j, m = j + 1 := ⟨m - 1, by omega⟩
    rw [envN_call hT]
    have hc : callF (envN T G N m) fn [d, e] = retF [] (runSs (envN T G N m) sameBody [some d, some e, none, none]) := by
      unfold callF
      rw [hp]
      simp only [slotsOf, hN, hmd, hb, List.map_cons, List.map_nil, List.length_cons, List.length_nil]
      rfl
    rw [hc]
    have fin : ∀ {L' : Lcs}, runSs (envN T G N m) sameBody [some d, some e, none, none] = .rt (.bl true) L' → retF [] (runSs (envN T G N m) sameBody [some d, some e, none, none]) = .ok (.bl true, []) := fun h => by
      rw [h]
      show Res.ok (D.bl true, ioOuts [] _) = _
      simp [ioOuts]
    have seq : ∀ {xs ys : List D}, D.fzs xs = xs → D.fzs ys = ys → D.noOwns xs = true → D.noOwns ys = true → (decide (xs.length = ys.length) && (xs.zip ys).all fun p => sm k p.1 p.2) = true → zipRun d e = some (zip2D xs ys) → ap1 .len d = some (.int xs.length) → ap1 .len e = some (.int ys.length) →
        pur (envN T G N m).G (.o1 (.isi ["list", "tuple"]) (.var 1)) [some d, some e, none, none] = some (.bl true) →
        pur (envN T G N m).G (.or (.o2 .ne (.o1 (.isi ["list"]) (.var 0)) (.o1 (.isi ["list"]) (.var 1))) (.o2 .ne (.o1 (.isi ["tuple"]) (.var 0)) (.o1 (.isi ["tuple"]) (.var 1)))) [some d, some e, none, none] = some (.bl false) →
        retF [] (runSs (envN T G N m) sameBody [some d, some e, none, none]) = .ok (.bl true, []) := by
      intro xs ys fx fy nx ny hs hz hl hl2 t1 t2
      simp only [Bool.and_eq_true, decide_eq_true_eq] at hs
      obtain ⟨L', e1⟩ := same_seq (V := envN T G N m) fd fe nd ne hz (fun x hx => ⟨fzs_mem fx x hx, noOwns_mem nx x hx⟩) (fun x hx => ⟨fzs_mem fy x hx, noOwns_mem ny x hx⟩) hl (by rw [hs.1]; exact hl2) t1 t2 (by rw [envN_md hT, hmd]) (by rw [envN_ar hT, hps]) fun p hp2 => by
        have m1 := (List.of_mem_zip hp2).1
        have m2 := (List.of_mem_zip hp2).2
        exact same_ok k (by omega) hT hp hmd hps hN hb (fzs_mem fx _ m1) (fzs_mem fy _ m2) (noOwns_mem nx _ m1) (noOwns_mem ny _ m2) (List.all_eq_true.mp hs.2 p hp2)
      exact fin e1
    cases d <;> cases e <;> simp only [sm, Bool.false_eq_true] at h
    · exact fin same_non
    · have : _ = _ := eq_of_beq h
      subst this
      exact fin (same_bl _)
    · have : _ = _ := of_decide_eq_true h
      subst this
      exact fin (same_int _)
    · simp only [Bool.and_eq_true, decide_eq_true_eq] at h
      obtain ⟨h1, h2⟩ := h
      subst h1
      exact fin (same_str h2)
    · rename_i xs ys
      exact seq (by simpa [D.fz] using fd) (by simpa [D.fz] using fe) (by simpa [D.noOwn] using nd) (by simpa [D.noOwn] using ne) h rfl rfl rfl rfl rfl
    · rename_i o xs o2 ys
      have h1 : o = false ∧ D.fzs xs = xs := by simpa [D.fz, eq_comm] using fd
      have h2 : o2 = false ∧ D.fzs ys = ys := by simpa [D.fz, eq_comm] using fe
      obtain ⟨rfl, h1⟩ := h1
      obtain ⟨rfl, h2⟩ := h2
      exact seq h1 h2 (by simpa [D.noOwn] using nd) (by simpa [D.noOwn] using ne) h rfl rfl rfl rfl rfl
end
end Q

namespace Q
open PySem L2 PySem.Spec
/-! ## fractions -/
abbrev nD (n : Nat) : D := .int (n : Int)
abbrev fD (p : Nat × Nat) : D := .tup [nD p.1, nD p.2]
theorem fmod_nat (a b : Nat) : ((a : Int)).fmod (b : Int) = ((a % b : Nat) : Int) := by
  rw [Int.fmod_eq_emod_of_nonneg _ (by omega)]; rfl
theorem fdiv_nat (a b : Nat) : ((a : Int)).fdiv (b : Int) = ((a / b : Nat) : Int) := by
  rw [Int.fdiv_eq_ediv_of_nonneg _ (by omega)]; rfl
section
variable {V : EnvQ} {L : Lcs}
theorem call_rt {T : Tab} {G : Str → Option D} {N m : Nat} {f : Str} {fn : FnD} {ds : List D} {d : D} {L' : Lcs} (hT : T.lookup f = some fn) (hp : fn.prim = none) (hmd : fn.md = []) (h : runSs (envN T G N m) fn.body (slotsOf fn.N ds) = .rt d L') : (envN T G N (m + 1)).call f ds = .ok (d, []) := by
  rw [envN_call hT]
  unfold callF
  rw [hp]
  simp only [h, hmd, retF]
  cases L' <;> rfl
theorem call_nx {T : Tab} {G : Str → Option D} {N m : Nat} {f : Str} {fn : FnD} {ds : List D} {L' : Lcs} (hT : T.lookup f = some fn) (hp : fn.prim = none) (hmd : fn.md = []) (h : runSs (envN T G N m) fn.body (slotsOf fn.N ds) = .nx L') : (envN T G N (m + 1)).call f ds = .ok (.non, []) := by
  rw [envN_call hT]
  unfold callF
  rw [hp]
  simp only [h, hmd, retF]
  cases L' <;> rfl
theorem nx_cons {s : S} {ss : Ss} {L1 : Lcs} (h : runS V s L = .nx L1) : runSs V (.cons s ss) L = runSs V ss L1 := by rw [runs_cons, h]; rfl
theorem rt_cons {s : S} {ss : Ss} {L1 : Lcs} {d : D} (h : runS V s L = .rt d L1) : runSs V (.cons s ss) L = .rt d L1 := by rw [runs_cons, h]; rfl
theorem tstP {p : P} {d : D} {k : Bool} (h : pur V.G p L = some d) (h2 : tru d = some k) : tst V (.p p) L = .ok (k, L) := by
  unfold tst
  rw [rdW_p, h]
  simp only [Res.bind, h2, Res.of]
theorem absN (n : Nat) {p : P} (h : pur V.G p L = some (nD n)) : pur V.G (.o1 .abs p) L = some (nD n) := by
  rw [pur1 h]
  simp only [ap1]
  rw [if_neg (by omega)]
theorem par2 {i j : Nat} {p q : P} {d e : D} (hp : pur V.G p L = some d) (hq : pur V.G q L = some e) (nd : d.noOwn = true) (ne : e.noOwn = true) : runS V (.par [i, j] (.cons (.p p) (.cons (.p q) .nil))) L = .nx ((L.set i (some d)).set j (some e)) := by
  rw [run_par, dens_cons, den_p]
  have k1 : keepP V.G p L = .ok (d, L) := by simp [keepP, hp, nd]
  have k2 : keepP V.G q L = .ok (e, L) := by simp [keepP, hq, ne]
  rw [k1]
  simp only [Res.bind]
  rw [dens_cons, den_p, k2]
  simp only [Res.bind]
  rw [dens_nil]
  rfl

/-! ### the greatest divisor, by the program and by the law -/
def gcdBody : Ss :=
 (.cons (.par [0, 1] (.cons (.p (.o1 .abs (.var 0))) (.cons (.p (.o1 .abs (.var 1))) .nil)))
 (.cons (.whl (.p (.var 1))
 (.cons (.par [0, 1] (.cons (.p (.var 1)) (.cons (.p (.o2 .mod (.var 0) (.var 1))) .nil)))
 .nil))
 (.cons (.ret (.mv 0))
 .nil)))
theorem gcd_loop : ∀ (b a fuel : Nat), b < fuel → whlRun (fun L => tst V (.p (.var 1)) L) (fun L => runSs V (.cons (.par [0, 1] (.cons (.p (.var 1)) (.cons (.p (.o2 .mod (.var 0) (.var 1))) .nil))) .nil) L) fuel [some (nD a), some (nD b)] = .nx [some (nD (Nat.gcd a b)), some (nD 0)] := by
  intro b
  induction b using Nat.strongRecOn with
  | ind b ih =>
    intro a fuel hf
    obtain ⟨f, rfl⟩ : ∃ f, fuel = f + 1 := ⟨fuel - 1, by omega⟩
    rw [whlRun_succ]
    have ht : tst V (.p (.var 1)) [some (nD a), some (nD b)] = .ok (decide (b ≠ 0), [some (nD a), some (nD b)]) := by
      refine tstP (d := nD b) rfl ?_
      simp only [tru]
      by_cases h : b = 0
      · subst h; rfl
      · have : (b : Int) ≠ 0 := by omega
        simp [h]
    rw [ht]
    by_cases h : b = 0
    · subst h
      simp [Res.seq]
    · have hb : (b : Int) ≠ 0 := by omega
      simp only [Res.seq, h, ne_eq, not_false_eq_true, decide_true, if_true]
      rw [nx_cons (par2 (d := nD b) (e := nD (a % b)) rfl ((pur2 (d := nD a) (e := nD b) rfl rfl).trans ((ap_mod hb).trans (by rw [fmod_nat]))) rfl rfl), runs_nil]
      simp only [stepR]
      have hlt : a % b < b := Nat.mod_lt _ (by omega)
      have := ih (a % b) hlt b f (by omega)
      rw [show (([some (nD a), some (nD b)] : Lcs).set 0 (some (nD b))).set 1 (some (nD (a % b))) = [some (nD b), some (nD (a % b))] from rfl, this]
      have : Nat.gcd b (a % b) = Nat.gcd a b := by rw [Nat.gcd_comm a b, Nat.gcd_rec b a, Nat.gcd_comm]
      rw [this]
theorem gcd_run {a b : Nat} (hb : b < V.N) : runSs V gcdBody [some (nD a), some (nD b)] = .rt (nD (Nat.gcd a b)) [none, some (nD 0)] := by
  unfold gcdBody
  rw [nx_cons (par2 (d := nD a) (e := nD b) (absN a rfl) (absN b rfl) rfl rfl)]
  rw [nx_cons (L1 := [some (nD (Nat.gcd a b)), some (nD 0)]) (by rw [run_whl]; exact gcd_loop b a V.N hb)]
  rw [rt_cons (d := nD (Nat.gcd a b)) (L1 := [none, some (nD 0)]) (by rw [run_ret, den_mv]; rfl)]
def fracBody : Ss :=
 (.cons (.par [3, 4] (.cons (.p (.o1 .abs (.var 0))) (.cons (.p (.o1 .abs (.var 1))) .nil)))
 (.cons (.whl (.p (.o2 .gt (.var 4) (.int 0)))
 (.cons (.par [3, 4] (.cons (.p (.var 4)) (.cons (.p (.o2 .mod (.o1 .int1 (.var 3)) (.var 4))) .nil)))
 .nil))
 (.cons (.asg (.nm 2) (.ife (.p (.o2 .gt (.var 1) (.int 0))) (.p (.int 1)) (.p (.o1 .neg (.int 1)))))
 (.cons (.ret (.tup (.cons (.p (.o2 .fdiv (.o2 .mul (.var 2) (.var 0)) (.var 3))) (.cons (.p (.o2 .fdiv (.o2 .mul (.var 2) (.var 1)) (.var 3))) .nil))))
 .nil))))
theorem frac_loop (x y : D) (o : Option D) : ∀ (b a fuel : Nat), b < fuel → whlRun (fun L => tst V (.p (.o2 .gt (.var 4) (.int 0))) L) (fun L => runSs V (.cons (.par [3, 4] (.cons (.p (.var 4)) (.cons (.p (.o2 .mod (.o1 .int1 (.var 3)) (.var 4))) .nil))) .nil) L) fuel [some x, some y, o, some (nD a), some (nD b)] = .nx [some x, some y, o, some (nD (Nat.gcd a b)), some (nD 0)] := by
  intro b
  induction b using Nat.strongRecOn with
  | ind b ih =>
    intro a fuel hf
    obtain ⟨f, rfl⟩ : ∃ f, fuel = f + 1 := ⟨fuel - 1, by omega⟩
    rw [whlRun_succ]
    have ht : tst V (.p (.o2 .gt (.var 4) (.int 0))) [some x, some y, o, some (nD a), some (nD b)] = .ok (decide (b ≠ 0), [some x, some y, o, some (nD a), some (nD b)]) := by
      refine tstP (d := .bl (decide ((0 : Int) < (b : Int)))) rfl ?_
      simp only [tru]
      by_cases h : b = 0
      · subst h; rfl
      · simp [h]; omega
    rw [ht]
    by_cases h : b = 0
    · subst h
      simp [Res.seq]
    · have hb : (b : Int) ≠ 0 := by omega
      simp only [Res.seq, h, ne_eq, not_false_eq_true, decide_true, if_true]
      rw [nx_cons (par2 (d := nD b) (e := nD (a % b)) rfl ((pur2 (d := nD a) (e := nD b) rfl rfl).trans ((ap_mod hb).trans (by rw [fmod_nat]))) rfl rfl), runs_nil]
      simp only [stepR]
      have hlt : a % b < b := Nat.mod_lt _ (by omega)
      have := ih (a % b) hlt b f (by omega)
      rw [show (([some x, some y, o, some (nD a), some (nD b)] : Lcs).set 3 (some (nD b))).set 4 (some (nD (a % b))) = [some x, some y, o, some (nD b), some (nD (a % b))] from rfl, this]
      have : Nat.gcd b (a % b) = Nat.gcd a b := by rw [Nat.gcd_comm a b, Nat.gcd_rec b a, Nat.gcd_comm]
      rw [this]
/-- in lowest terms -/
def rd (a b : Nat) : Nat × Nat := (a / Nat.gcd a b, b / Nat.gcd a b)
def big : Nat := 10 ^ 100
theorem big_log {n : Nat} (h : n < big) : ((n : Int)).natAbs.log2 < 400 := log2_lt (by decide) (Nat.lt_trans (show ((n : Int)).natAbs < big from h) (by decide))
theorem frac_run {a b : Nat} (hN : b < V.N) (hb : 0 < b) (ha : a < big) (hb2 : b < big) : ∃ L', runSs V fracBody [some (nD a), some (nD b), none, none, none] = .rt (fD (rd a b)) L' := by
  unfold fracBody
  rw [nx_cons (par2 (d := nD a) (e := nD b) (absN a rfl) (absN b rfl) rfl rfl)]
  rw [nx_cons (L1 := [some (nD a), some (nD b), none, some (nD (Nat.gcd a b)), some (nD 0)]) (by rw [run_whl]; exact frac_loop (nD a) (nD b) none b a V.N hN)]
  have hg : 0 < Nat.gcd a b := Nat.gcd_pos_of_pos_right _ hb
  have hg2 : Nat.gcd a b < big := Nat.lt_of_le_of_lt (Nat.le_of_dvd hb (Nat.gcd_dvd_right a b)) hb2
  have hg3 : ((Nat.gcd a b : Nat) : Int) ≠ 0 ∧ ((Nat.gcd a b : Nat) : Int).natAbs.log2 < 9000 := ⟨by omega, Nat.lt_trans (big_log hg2) (by decide)⟩
  have s1 : runS V (.asg (.nm 2) (.ife (.p (.o2 .gt (.var 1) (.int 0))) (.p (.int 1)) (.p (.o1 .neg (.int 1))))) [some (nD a), some (nD b), none, some (nD (Nat.gcd a b)), some (nD 0)] = .nx [some (nD a), some (nD b), some (.int 1), some (nD (Nat.gcd a b)), some (nD 0)] := by
    rw [run_asg, den_ife, rdW_p]
    have : pur V.G (.o2 .gt (.var 1) (.int 0)) [some (nD a), some (nD b), none, some (nD (Nat.gcd a b)), some (nD 0)] = some (.bl true) := by
      show some (D.bl (decide ((0 : Int) < (b : Int)))) = _
      rw [decide_eq_true (by omega)]
    rw [this]
    simp only [tru, Res.of, Res.bind, if_true]
    rw [den_p]; rfl
  rw [nx_cons s1]
  have one : ∀ (n : Nat), n < big → ((1 : Int)).natAbs.log2 + ((n : Int)).natAbs.log2 < 1000000 := fun n h => by
    have := big_log h
    have h1 : ((1 : Int)).natAbs.log2 = 0 := by decide
    omega
  have e1 : pur V.G (.o2 .fdiv (.o2 .mul (.var 2) (.var 0)) (.var 3)) [some (nD a), some (nD b), some (.int 1), some (nD (Nat.gcd a b)), some (nD 0)] = some (nD (rd a b).1) := by
    refine (pur2 (d := nD a) (e := nD (Nat.gcd a b)) ((pur2 (d := .int 1) (e := nD a) rfl rfl).trans ((ap_mul (one a ha)).trans (by rw [Int.one_mul]))) rfl).trans ((ap_fdiv hg3).trans ?_)
    rw [fdiv_nat]; rfl
  have e2 : pur V.G (.o2 .fdiv (.o2 .mul (.var 2) (.var 1)) (.var 3)) [some (nD a), some (nD b), some (.int 1), some (nD (Nat.gcd a b)), some (nD 0)] = some (nD (rd a b).2) := by
    refine (pur2 (d := nD b) (e := nD (Nat.gcd a b)) ((pur2 (d := .int 1) (e := nD b) rfl rfl).trans ((ap_mul (one b hb2)).trans (by rw [Int.one_mul]))) rfl).trans ((ap_fdiv hg3).trans ?_)
    rw [fdiv_nat]; rfl
  refine ⟨[some (nD a), some (nD b), some (.int 1), some (nD (Nat.gcd a b)), some (nD 0)], ?_⟩
  refine rt_cons ?_
  rw [run_ret, den_tup, dens_cons, den_p]
  simp only [keepP, e1, D.noOwn, if_true, Res.bind]
  rw [dens_cons, den_p]
  simp only [keepP, e2, D.noOwn, if_true, Res.bind]
  rw [dens_nil]
  rfl
/-- a call, its arguments lent or of their own, that changes nothing -/
theorem callOk {f : Str} {es : Es} {as : List Arg} {L1 : Lcs} {ds : List D} {d : D} (hmd : V.md f = []) (ha : args V [] es L = .ok (as, L1)) (hl : as.length = (V.ar f).length) (hv : argVals as L1 = some (ds, L1)) (ho : lentOk as L1 = true) (hc : V.call f ds = .ok (d, [])) (hd : d.noSh = true) (hp : putBack as [] L1 = some L1) : den V (.call f [] es) L = .ok (d, L1) := by
  rw [den_call, hmd, ha]
  simp only [Res.bind, hl, if_true]
  unfold callRun
  rw [hv]
  simp only [ho, if_true, hc, hd, outNoSh, Bool.and_self, hp]
theorem keepD {p : P} {d : D} (h : pur V.G p L = some d) (hn : d.noOwn = true) : den V (.p p) L = .ok (d, L) := by
  rw [den_p]
  simp [keepP, h, hn]
/-- two pure values, no names -/
theorem call2 {f : Str} {p q : P} {d e r : D} (hmd : V.md f = []) (har : (V.ar f).length = 2) (hp : pur V.G p L = some d) (hq : pur V.G q L = some e) (np : notVar (.p p) = true) (nq : notVar (.p q) = true) (nd : d.noOwn = true) (ne : e.noOwn = true) (fd : d.fz = d) (fe : e.fz = e) (hc : V.call f [d, e] = .ok (r, [])) (hr : r.noSh = true) : den V (.call f [] (.cons (.p p) (.cons (.p q) .nil))) L = .ok (r, L) :=
  callOk hmd (arg_val rfl np (keepD hp nd) (arg_val rfl nq (keepD hq ne) (args_nil V _ _))) (by rw [har]; rfl) (ds := [d, e]) (by simp [argVals, fd, fe]) rfl hc hr rfl
/-- two names -/
theorem call2v {f : Str} {i j : Nat} {d e r : D} (hmd : V.md f = []) (har : (V.ar f).length = 2) (hp : L[i]? = some (some d)) (hq : L[j]? = some (some e)) (fd : d.fz = d) (fe : e.fz = e) (hc : V.call f [d, e] = .ok (r, [])) (hr : r.noSh = true) : den V (.call f [] (.cons (.p (.var i)) (.cons (.p (.var j)) .nil))) L = .ok (r, L) :=
  callOk hmd (arg_bor rfl hp (arg_bor rfl hq (args_nil V _ _))) (by rw [har]; rfl) (ds := [d, e]) (by simp [argVals, hp, hq, fd, fe]) (by simp [lentOk, hp, hq]) hc hr rfl
theorem call2vp {f : Str} {i : Nat} {q : P} {d e r : D} (hmd : V.md f = []) (har : (V.ar f).length = 2) (hp : L[i]? = some (some d)) (hq : pur V.G q L = some e) (nq : notVar (.p q) = true) (ne : e.noOwn = true) (fd : d.fz = d) (fe : e.fz = e) (hc : V.call f [d, e] = .ok (r, [])) (hr : r.noSh = true) : den V (.call f [] (.cons (.p (.var i)) (.cons (.p q) .nil))) L = .ok (r, L) :=
  callOk hmd (arg_bor rfl hp (arg_val rfl nq (keepD hq ne) (args_nil V _ _))) (by rw [har]; rfl) (ds := [d, e]) (by simp [argVals, hp, fd, fe]) (by simp [lentOk, hp]) hc hr rfl
theorem call2pv {f : Str} {j : Nat} {p : P} {d e r : D} (hmd : V.md f = []) (har : (V.ar f).length = 2) (hp : pur V.G p L = some d) (hq : L[j]? = some (some e)) (np : notVar (.p p) = true) (nd : d.noOwn = true) (fd : d.fz = d) (fe : e.fz = e) (hc : V.call f [d, e] = .ok (r, [])) (hr : r.noSh = true) : den V (.call f [] (.cons (.p p) (.cons (.p (.var j)) .nil))) L = .ok (r, L) :=
  callOk hmd (arg_val rfl np (keepD hp nd) (arg_bor rfl hq (args_nil V _ _))) (by rw [har]; rfl) (ds := [d, e]) (by simp [argVals, hq, fd, fe]) (by simp [lentOk, hq]) hc hr rfl
/-- two values -/
theorem call2e {f : Str} {a b : E} {L1 L2 : Lcs} {d e r : D} (hmd : V.md f = []) (har : (V.ar f).length = 2) (na : notVar a = true) (nb : notVar b = true) (ha : den V a L = .ok (d, L1)) (hb : den V b L1 = .ok (e, L2)) (fd : d.fz = d) (fe : e.fz = e) (hc : V.call f [d, e] = .ok (r, [])) (hr : r.noSh = true) : den V (.call f [] (.cons a (.cons b .nil))) L = .ok (r, L2) :=
  callOk hmd (arg_val rfl na ha (arg_val rfl nb hb (args_nil V _ _))) (by rw [har]; rfl) (ds := [d, e]) (by simp [argVals, fd, fe]) rfl hc hr rfl
theorem call1v {f : Str} {i : Nat} {d r : D} (hmd : V.md f = []) (har : (V.ar f).length = 1) (hp : L[i]? = some (some d)) (fd : d.fz = d) (hc : V.call f [d] = .ok (r, [])) (hr : r.noSh = true) : den V (.call f [] (.cons (.p (.var i)) .nil)) L = .ok (r, L) :=
  callOk hmd (arg_bor rfl hp (args_nil V _ _)) (by rw [har]; rfl) (ds := [d]) (by simp [argVals, hp, fd]) (by simp [lentOk, hp]) hc hr rfl
theorem call1e {f : Str} {a : E} {L1 : Lcs} {d r : D} (hmd : V.md f = []) (har : (V.ar f).length = 1) (na : notVar a = true) (ha : den V a L = .ok (d, L1)) (hc : V.call f [d.fz] = .ok (r, [])) (hr : r.noSh = true) : den V (.call f [] (.cons a .nil)) L = .ok (r, L1) :=
  callOk hmd (arg_val rfl na ha (args_nil V _ _)) (by rw [har]; rfl) (ds := [d.fz]) (by simp [argVals]) rfl hc hr rfl
theorem retE {e : E} {d : D} {L1 : Lcs} (h : den V e L = .ok (d, L1)) : runS V (.ret e) L = .rt d L1 := by rw [run_ret, h]; rfl
theorem asgE {i : Nat} {e : E} {d : D} {L1 : Lcs} (h : den V e L = .ok (d, L1)) : runS V (.asg (.nm i) e) L = .nx (L1.set i (some d)) := by rw [run_asg, h]; rfl
theorem mulN {p q : P} {a b : Nat} (hp : pur V.G p L = some (nD a)) (hq : pur V.G q L = some (nD b)) (ha : a < big) (hb : b < big) : pur V.G (.o2 .mul p q) L = some (nD (a * b)) := by
  have h1 := big_log ha
  have h2 := big_log hb
  refine (pur2 hp hq).trans ((ap_mul (by omega)).trans ?_)
  rw [← Int.natCast_mul]
theorem addN {p q : P} {a b : Nat} (hp : pur V.G p L = some (nD a)) (hq : pur V.G q L = some (nD b)) : pur V.G (.o2 .add p q) L = some (nD (a + b)) := (pur2 hp hq).trans rfl
theorem tup2 {p q : P} {d e : D} (hp : pur V.G p L = some d) (hq : pur V.G q L = some e) (nd : d.noOwn = true) (ne : e.noOwn = true) : den V (.tup (.cons (.p p) (.cons (.p q) .nil))) L = .ok (.tup [d, e], L) := by
  rw [den_tup, dens_cons, keepD hp nd]
  simp only [Res.bind]
  rw [dens_cons, keepD hq ne]
  simp only [Res.bind]
  rw [dens_nil]
/-- a comprehension whose parts leave the names as they are -/
theorem lc_pure1 {vs : List Nat} {tg : Tg} {s : Src} {cs : Es} {e : E} {β : Type} {L1 : Lcs} (dx : β → D) (p : β → Bool) (f : β → D) (xs : List β) (hs : src V s L = .ok (xs.map dx, L1)) (h : ∀ x ∈ xs, ∃ L2, tg.set (dx x) (wipeL L1 vs) = some L2 ∧ wipeL L2 vs = wipeL L1 vs ∧ conds V cs L2 = .ok (p x, L2) ∧ (p x = true → den V e L2 = .ok (f x, L2))) :
    den V (.lc vs tg s cs e) L = .ok (.lst true ((xs.filter p).map f), resetTo L1 (wipeL L1 vs) vs) := by
  obtain ⟨Lf, e1, e2⟩ := lcRun_pure (tg := tg) (vs := vs) (cond := fun L => conds V cs L) (elt := fun L => den V e L) dx p f (wipeL L1 vs) xs L1 rfl h
  rw [den_lc, hs]
  simp only [Res.bind, e1, e2]
theorem lc_pure {vs : List Nat} {tg : Tg} {s : Src} {cs : Es} {e : E} {β : Type} (dx : β → D) (p : β → Bool) (f : β → D) (xs : List β) (hs : src V s L = .ok (xs.map dx, L)) (h : ∀ x ∈ xs, ∃ L1, tg.set (dx x) (wipeL L vs) = some L1 ∧ wipeL L1 vs = wipeL L vs ∧ conds V cs L1 = .ok (p x, L1) ∧ (p x = true → den V e L1 = .ok (f x, L1))) :
    den V (.lc vs tg s cs e) L = .ok (.lst true ((xs.filter p).map f), resetTo L (wipeL L vs) vs) := lc_pure1 dx p f xs hs h
theorem src_rng2 {p q : P} {a b : Int} (hp : pur V.G p L = some (.int a)) (hq : pur V.G q L = some (.int b)) (h : -1000000 < a ∧ a < 1000000 ∧ -1000000 < b ∧ b < 1000000) : src V (.rng (.cons (.p p) (.cons (.p q) .nil))) L = .ok ((List.range (b - a).toNat).map fun k : Nat => D.int (a + (k : Nat)), L) := by
  rw [src_rng, dens_cons, keepD hp rfl]
  simp only [Res.bind]
  rw [dens_cons, keepD hq rfl]
  simp only [Res.bind]
  rw [dens_nil]
  simp only [Res.bind, rngRun]
  rw [if_pos h]
  simp only [Res.of, rngD_map]
theorem src_rngI {q : P} {b : Int} (hq : pur V.G q L = some (.int b)) (h : -1000000 < b ∧ b < 1000000) : src V (.rng (.cons (.p q) .nil)) L = .ok ((List.range b.toNat).map fun k : Nat => D.int (0 + (k : Nat)), L) := by
  rw [src_rng, dens_cons, keepD hq rfl]
  simp only [Res.bind]
  rw [dens_nil]
  simp only [Res.bind, rngRun]
  rw [if_pos h]
  simp only [Res.of, rngD_map]
theorem rng_nD (n : Nat) : ((List.range ((n : Nat) : Int).toNat).map fun k : Nat => D.int (0 + (k : Nat))) = (List.range n).map nD := by
  rw [Int.toNat_natCast]
  exact List.map_congr_left fun k _ => congrArg D.int (Int.zero_add _)
theorem src_rng1 {q : P} {n : Nat} (hq : pur V.G q L = some (nD n)) (h : (n : Int) < 1000000) : src V (.rng (.cons (.p q) .nil)) L = .ok ((List.range n).map nD, L) := by
  have := src_rngI hq ⟨by omega, h⟩
  rw [rng_nD] at this
  exact this
theorem src_var {i : Nat} {d : D} {ds : List D} (h : L[i]? = some (some d)) (hn : d.noOwn = true) (he : d.fz.els = some ds) : src V (.e (.p (.var i))) L = .ok (ds, L) := by
  rw [src_e, keepD (by simp only [pur, h]) hn]
  simp only [seqF, he]
theorem conds_p {p : P} {k : Bool} (h : pur V.G p L = some (.bl k)) : conds V (.cons (.p p) .nil) L = .ok (k, L) := by
  rw [conds_one, rdW_p, h]; rfl
/-- a for that folds, as far as it goes -/
theorem forRun_foldM {tg : Tg} {body : Lcs → RS} {α β : Type} (dx : β → D) (step : α → β → Option α) (z : α → Lcs → Prop) :
    ∀ (xs : List β) (a r : α) (L : Lcs), z a L → xs.foldlM step a = some r → (∀ x ∈ xs, ∀ a a' L, z a L → step a x = some a' → ∃ L1 L2, tg.set (dx x) L = some L1 ∧ body L1 = .nx L2 ∧ z a' L2) → ∃ L', forRun tg body (xs.map dx) L = .nx L' ∧ z r L'
  | [], a, r, L, h, e, _ => by
    simp only [List.foldlM_nil, Option.pure_def, Option.some.injEq] at e
    subst e
    exact ⟨L, rfl, h⟩
  | x :: xs, a, r, L, h, e, s => by
    rw [List.foldlM_cons] at e
    obtain ⟨a', e1, e2⟩ := Option.bind_eq_some_iff.mp e
    obtain ⟨L1, L2, g1, g2, h2⟩ := s x List.mem_cons_self a a' L h e1
    obtain ⟨L', g3, h3⟩ := forRun_foldM dx step z xs a' r L2 h2 e2 fun y m => s y (List.mem_cons_of_mem _ m)
    refine ⟨L', ?_, h3⟩
    rw [List.map_cons, forRun_cons, g1]
    simp only [g2, stepR]
    exact g3
theorem for_nx {tg : Tg} {s : Src} {b : Ss} {ds : List D} {L1 L' : Lcs} (hs : src V s L = .ok (ds, L1)) (h : forRun tg (fun L => runSs V b L) ds L1 = .nx L') : runS V (.for_ tg s b) L = .nx L' := by
  rw [run_for, hs]
  simp only [Res.seq]
  exact h
theorem eq_fD (p q : Nat × Nat) : eqD (fD p) (fD q) = some (decide (p = q)) := by
  have : eqD (fD p) (fD q) = some ((((p.1 : Int)) == (q.1 : Int)) && ((((p.2 : Int)) == (q.2 : Int)) && true)) := rfl
  rw [this]
  congr 1
  obtain ⟨a, b⟩ := p
  obtain ⟨c, d⟩ := q
  rw [Bool.eq_iff_iff]
  simp only [Bool.and_true, Bool.and_eq_true, beq_iff_eq, decide_eq_true_eq, Prod.mk.injEq]
  omega
theorem fzs_map {β : Type} {f : β → D} (h : ∀ x, (f x).fz = f x) (xs : List β) : D.fzs (xs.map f) = xs.map f := by
  rw [fzs_eq, List.map_map]
  exact List.map_congr_left fun x _ => h x
theorem noOwns_map {β : Type} {f : β → D} (h : ∀ x, (f x).noOwn = true) (xs : List β) : D.noOwns (xs.map f) = true := by
  rw [noOwns_eq, List.all_map, List.all_eq_true]
  exact fun x _ => h x
theorem noShs_map {β : Type} {f : β → D} (h : ∀ x, (f x).noSh = true) (xs : List β) : D.noShs (xs.map f) = true := by
  rw [noShs_eq, List.all_map, List.all_eq_true]
  exact fun x _ => h x
/-- a name that holds an own list, lent -/
theorem call1b {f : Str} {i : Nat} {d r : D} (hmd : V.md f = []) (har : (V.ar f).length = 1) (hp : L[i]? = some (some d)) (hc : V.call f [d.fz] = .ok (r, [])) (hr : r.noSh = true) : den V (.call f [] (.cons (.p (.var i)) .nil)) L = .ok (r, L) :=
  callOk hmd (arg_bor rfl hp (args_nil V _ _)) (by rw [har]; rfl) (ds := [d.fz]) (by simp [argVals, hp]) (by simp [lentOk, hp]) hc hr rfl
theorem atN {β : Type} {f : β → D} {xs : List β} {i : Nat} {x : β} (h : xs[i]? = some x) : atI (xs.map f) (i : Int) = some (f x) := by
  have hi := (List.getElem?_eq_some_iff.mp h).1
  unfold atI ixN
  rw [if_pos (by omega), if_pos (by rw [List.length_map]; omega)]
  simp [h]
end
end Q

namespace Q
open PySem L2 PySem.Spec
/-! ## steps of a walk, goal by goal -/
section
variable {V : EnvQ} {L L1 L2 L3 : Lcs} {ss a b : Ss} {r : RS} {d d1 d2 : D} {e e1 e2 c : E} {i : Nat} {k k2 : Bool}
theorem rdE (hp : isP e = false := by rfl) {x : Res (D × Lcs)} (h : den V e L = x) : rdW V e (fun L => den V e L) L = x := by
  cases e <;> first | exact h | (simp [isP] at hp)
theorem rdP {p : P} (h : pur V.G p L = some d) : rdW V (.p p) (fun L => den V (.p p) L) L = .ok (d, L) := by rw [rdW_p, h]
theorem q_nil : runSs V .nil L = .nx L := runs_nil _ _
theorem q_asg (h : den V e L = .ok (d, L1)) (h2 : runSs V ss (L1.set i (some d)) = r) : runSs V (.cons (.asg (.nm i) e) ss) L = r := (nx_cons (asgE h)).trans h2
theorem q_ret (h : den V e L = .ok (d, L1)) : runSs V (.cons (.ret e) ss) L = .rt d L1 := rt_cons (retE h)
theorem q_ex (h : den V e L = .ok (d, L1)) (h2 : runSs V ss L1 = r) : runSs V (.cons (.ex e) ss) L = r := (nx_cons (by rw [run_ex, h]; rfl)).trans h2
theorem q_ifF (h : rdW V c (fun L => den V c L) L = .ok (.bl false, L1)) (h2 : runSs V b L1 = .nx L2) (h3 : runSs V ss L2 = r) : runSs V (.cons (.ifs c a b) ss) L = r := by
  refine (nx_cons (L1 := L2) ?_).trans h3
  rw [run_ifs, h]
  exact h2
theorem q_ifT (h : rdW V c (fun L => den V c L) L = .ok (.bl true, L1)) (h2 : runSs V a L1 = .nx L2) (h3 : runSs V ss L2 = r) : runSs V (.cons (.ifs c a b) ss) L = r := by
  refine (nx_cons (L1 := L2) ?_).trans h3
  rw [run_ifs, h]
  exact h2
theorem q_ifR (h : rdW V c (fun L => den V c L) L = .ok (.bl true, L1)) (h2 : runSs V a L1 = .rt d L2) : runSs V (.cons (.ifs c a b) ss) L = .rt d L2 := by
  refine rt_cons ?_
  rw [run_ifs, h]
  exact h2
/-- a refusal not taken -/
theorem q_if0 (h : rdW V c (fun L => den V c L) L = .ok (.bl false, L1)) (h3 : runSs V ss L1 = r) : runSs V (.cons (.ifs c a .nil) ss) L = r := q_ifF h q_nil h3
theorem q_for {tg : Tg} {s : Src} {ds : List D} (hs : src V s L = .ok (ds, L1)) (h : forRun tg (fun L => runSs V b L) ds L1 = .nx L2) (h3 : runSs V ss L2 = r) : runSs V (.cons (.for_ tg s b) ss) L = r := (nx_cons (for_nx hs h)).trans h3
theorem q_app {xs : List D} (hl : xs.length < 1000000) (h0 : L[i]? = some (some (.lst true xs))) (h : den V e L = .ok (d, L1)) (h1 : L1[i]? = some (some (.lst true xs))) (h2 : runSs V ss (L1.set i (some (.lst true (xs ++ [d])))) = r) : runSs V (.cons (.app i [] e) ss) L = r := by
  refine (nx_cons ?_).trans h2
  rw [run_app0]
  simp only [lstAt, h0, Res.of, Res.seq, h, appRun, h1, pathInts, updPath, appF, hl, if_true, RS.of]
theorem q_ext {xs ys : List D} {bb : Bool} (hl : xs.length + ys.length ≤ 1000000) (h0 : L[i]? = some (some (.lst true xs))) (h : den V e L = .ok (.lst bb ys, L1)) (h1 : L1[i]? = some (some (.lst true xs))) (h2 : runSs V ss (L1.set i (some (.lst true (xs ++ ys)))) = r) : runSs V (.cons (.ext i e) ss) L = r := by
  refine (nx_cons ?_).trans h2
  rw [run_ext]
  simp only [lstAt, h0, Res.of, Res.seq, h, extRun, h1, hl, if_true, RS.of]
theorem q_par {is : List Nat} {es : Es} {ds : List D} (h : dens V es L = .ok (ds, L1)) (hs : setAllO is ds L1 = some L2) (h2 : runSs V ss L2 = r) : runSs V (.cons (.par is es) ss) L = r := by
  refine (nx_cons (L1 := L2) ?_).trans h2
  rw [run_par, h]
  simp only [Res.seq, hs, RS.of]
theorem q_cons {es : Es} {ds : List D} (h : den V e L = .ok (d, L1)) (h2 : dens V es L1 = .ok (ds, L2)) : dens V (.cons e es) L = .ok (d :: ds, L2) := by
  rw [dens_cons, h]
  simp only [Res.bind, h2]
theorem q_end : dens V .nil L = .ok ([], L) := dens_nil _ _
/-! expressions -/
theorem x_not (h : rdW V e (fun L => den V e L) L = .ok (.bl k, L1)) : den V (.o1 .not e) L = .ok (.bl (!k), L1) := by
  rw [den_o1, h]; rfl
theorem x_notR (h : rdW V e (fun L => den V e L) L = .ok (.bl k, L1)) : rdW V (.o1 .not e) (fun L => den V (.o1 .not e) L) L = .ok (.bl (!k), L1) := x_not h
theorem x_and (h : rdW V e1 (fun L => den V e1 L) L = .ok (.bl true, L1)) (h2 : rdW V e2 (fun L => den V e2 L) L1 = .ok (.bl k, L2)) : den V (.and e1 e2) L = .ok (.bl k, L2) := by
  rw [den_and, h]
  show ((rdW V e2 (fun L => den V e2 L) L1).bind _) = _
  rw [h2]; rfl
theorem x_andF (h : rdW V e1 (fun L => den V e1 L) L = .ok (.bl false, L1)) : den V (.and e1 e2) L = .ok (.bl false, L1) := by
  rw [den_and, h]; rfl
theorem x_or (h : rdW V e1 (fun L => den V e1 L) L = .ok (.bl false, L1)) (h2 : rdW V e2 (fun L => den V e2 L) L1 = .ok (.bl k, L2)) : den V (.or e1 e2) L = .ok (.bl k, L2) := by
  rw [den_or, h]
  show ((rdW V e2 (fun L => den V e2 L) L1).bind _) = _
  rw [h2]; rfl
theorem x_orR (h : rdW V e1 (fun L => den V e1 L) L = .ok (.bl false, L1)) (h2 : rdW V e2 (fun L => den V e2 L) L1 = .ok (.bl k, L2)) : rdW V (.or e1 e2) (fun L => den V (.or e1 e2) L) L = .ok (.bl k, L2) := x_or h h2
theorem x_ife (h : rdW V c (fun L => den V c L) L = .ok (.bl k, L1)) {x : Res (D × Lcs)} (h2 : (if k then den V e1 L1 else den V e2 L1) = x) : den V (.ife c e1 e2) L = x := by
  rw [den_ife, h]; exact h2
theorem x_o2 {o : O2} (h : den V e1 L = .ok (d1, L1)) (h2 : rdW V e2 (fun L => den V e2 L) L1 = .ok (d2, L2)) (h3 : ap2 o d1 d2 = some d) : den V (.o2 o e1 e2) L = .ok (d, L2) := by
  rw [den_o2, h]
  show ((rdW V e2 (fun L => den V e2 L) L1).bind _) = _
  rw [h2]
  simp only [Res.bind, h3, Res.of]
theorem x_tup {es : Es} {ds : List D} (h : dens V es L = .ok (ds, L1)) : den V (.tup es) L = .ok (.tup ds, L1) := by rw [den_tup, h]; rfl
theorem x_lst {es : Es} {ds : List D} (h : dens V es L = .ok (ds, L1)) : den V (.lst es) L = .ok (.lst true ds, L1) := by rw [den_lst, h]; rfl
theorem x_mv (h : L[i]? = some (some d)) : den V (.mv i) L = .ok (d, L.set i none) := by rw [den_mv, h]
/-! arguments -/
theorem a_bor {es : Es} {as : List Arg} (h : L[i]? = some (some d)) (h2 : args V [] es L = .ok (as, L2)) : args V [] (.cons (.p (.var i)) es) L = .ok (.bor i :: as, L2) := arg_bor rfl h h2
theorem a_val {es : Es} {as : List Arg} (h : den V e L = .ok (d, L1)) (h2 : args V [] es L1 = .ok (as, L2)) (hv : notVar e = true := by rfl) : args V [] (.cons e es) L = .ok (.val d :: as, L2) := arg_val rfl hv h h2
theorem a_end : args V [] .nil L = .ok ([], L) := args_nil _ _ _
end
section
variable {T : Tab} {G : Str → Option D} {N m : Nat}
/-- a call, its answer known -/
theorem cal {f : Str} {fn : FnD} {es : Es} {as : List Arg} {L L1 : Lcs} {ds : List D} {d : D} (l : T.lookup f = some fn) (ha : args (envN T G N m) [] es L = .ok (as, L1)) (hc : (envN T G N m).call f ds = .ok (d, [])) (hmd : fn.md = [] := by rfl) (hl : as.length = fn.ps.length := by rfl) (hv : argVals as L1 = some (ds, L1) := by rfl) (ho : lentOk as L1 = true := by rfl) (hd : d.noSh = true := by rfl) (hp : putBack as [] L1 = some L1 := by rfl) : den (envN T G N m) (.call f [] es) L = .ok (d, L1) :=
  callOk (by rw [show (envN T G N m).md f = fn.md from envN_md l, hmd]) ha (by rw [hl, show (envN T G N m).ar f = fn.ps from envN_ar l]) hv ho hc hd hp
/-- a call by names -/
theorem calK {f k : Str} {ks : List Str} {fn : FnD} {es : Es} {as : List Arg} {L L1 : Lcs} {ds ds' : List D} {d : D} (idx : List Nat) (l : T.lookup f = some fn) (ha : args (envN T G N m) [] es L = .ok (as, L1)) (hc : (envN T G N m).call f ds' = .ok (d, [])) (hi : idxK (k :: ks) fn.ps = idx := by decide +kernel) (hall : (fn.ps.all fun p => decide (p ∈ k :: ks)) = true := by decide +kernel) (hmd : fn.md = [] := by rfl) (hl : as.length = fn.ps.length := by rfl) (hl2 : (k :: ks).length = as.length := by rfl) (hv : argVals as L1 = some (ds, L1) := by rfl) (hpm : permL idx ds = ds' := by rfl) (ho : lentOk as L1 = true := by rfl) (hd : d.noSh = true := by rfl) (hp : putBack as [] L1 = some L1 := by rfl) : den (envN T G N m) (.call f (k :: ks) es) L = .ok (d, L1) := by
  have har : (envN T G N m).ar f = fn.ps := envN_ar l
  rw [den_callK, if_pos (by rw [show (envN T G N m).md f = fn.md from envN_md l, hmd]), ha]
  simp only [Res.bind]
  rw [if_pos ⟨by rw [hl, har], hl2, by rw [har]; exact hall⟩]
  unfold callRun
  have c : ((envN T G N m).kw (k :: ks)).call f ds = .ok (d, []) := by
    show (envN T G N m).call f (permL (idxK (k :: ks) ((envN T G N m).ar f)) ds) = _
    rw [har, hi, hpm, hc]
  rw [hv]
  simp only [ho, if_true, c, hd, outNoSh, Bool.and_self, hp]
end
theorem rd_pos {a b : Nat} (hb : 0 < b) (ha : a < big) (hb2 : b < big) : 0 < (rd a b).2 ∧ (rd a b).1 < big ∧ (rd a b).2 < big :=
  ⟨Nat.div_pos (Nat.le_of_dvd hb (Nat.gcd_dvd_right a b)) (Nat.gcd_pos_of_pos_right _ hb), Nat.lt_of_le_of_lt (Nat.div_le_self _ _) ha, Nat.lt_of_le_of_lt (Nat.div_le_self _ _) hb2⟩
/-- all or none -/
def mapO {α β : Type} (g : α → Option β) : List α → Option (List β)
  | [] => some []
  | x :: xs => match g x with
    | none => none
    | some y => match mapO g xs with
      | none => none
      | some ys => some (y :: ys)
theorem mapO_ok {α β : Type} {g : α → Option β} (z : β) : ∀ {xs : List α} {ys : List β}, mapO g xs = some ys → ys = xs.map (fun x => (g x).getD z) ∧ ∀ x ∈ xs, g x = some ((g x).getD z)
  | [], ys, h => by cases h; exact ⟨rfl, fun _ h => nomatch h⟩
  | x :: xs, ys, h => by
    unfold mapO at h
    split at h
    · cases h
    · rename_i y hy
      split at h
      · cases h
      · rename_i zs hz
        cases h
        obtain ⟨h1, h2⟩ := mapO_ok z hz
        refine ⟨by rw [List.map_cons, hy, ← h1]; rfl, fun w hw => ?_⟩
        rcases List.mem_cons.mp hw with rfl | hw
        · rw [hy]; rfl
        · exact h2 w hw
/-- a fold that appends -/
def apS1 {α β : Type} (f : α → β) (acc : List β) (x : α) : Option (List β) := if acc.length < 1000000 then some (acc ++ [f x]) else none
theorem foldlM_app {α β : Type} (f : α → β) : ∀ (xs : List α) (acc : List β), acc.length + xs.length ≤ 1000000 → xs.foldlM (apS1 f) acc = some (acc ++ xs.map f)
  | [], acc, _ => by simp
  | x :: xs, acc, h => by
    rw [List.length_cons] at h
    rw [List.foldlM_cons, apS1, if_pos (by omega)]
    show xs.foldlM (apS1 f) (acc ++ [f x]) = _
    rw [foldlM_app f xs _ (by rw [List.length_append, List.length_singleton]; omega)]
    simp
def apSs {α β : Type} (f : α → List β) (acc : List β) (x : α) : Option (List β) := if acc.length + (f x).length ≤ 1000000 then some (acc ++ f x) else none
theorem foldlM_apps {α β : Type} (f : α → List β) : ∀ (xs : List α) (acc : List β), acc.length + (xs.flatMap f).length ≤ 1000000 → xs.foldlM (apSs f) acc = some (acc ++ xs.flatMap f)
  | [], acc, _ => by simp
  | x :: xs, acc, h => by
    rw [List.flatMap_cons, List.length_append] at h
    rw [List.foldlM_cons, apSs, if_pos (by omega)]
    show xs.foldlM (apSs f) (acc ++ f x) = _
    rw [foldlM_apps f xs _ (by rw [List.length_append]; omega)]
    simp
section
variable {V : EnvQ} {L : Lcs}
theorem x_sqList {p : P} {d : D} {ds : List D} (h : pur V.G p L = some d) (he : d.els = some ds) (hn : D.noOwns ds = true) : den V (.sq .list (.p p)) L = .ok (.lst true ds, L) := by
  rw [den_sq]
  have : seqW V (.p p) (fun L => den V (.p p) L) L = .ok (d, L) := by
    unfold seqW
    simp only [h, he, hn, if_true]
  rw [this]
  simp only [Res.bind, apS, he, Res.of]
theorem geN {p q : P} {a b : Nat} (hp : pur V.G p L = some (nD a)) (hq : pur V.G q L = some (nD b)) : pur V.G (.o2 .ge p q) L = some (.bl (Nat.ble b a)) := by
  refine (pur2 hp hq).trans ?_
  show some (D.bl (decide ((b : Int) ≤ (a : Int)))) = _
  refine congrArg (fun i => some (D.bl i)) ?_
  by_cases h : b ≤ a
  · rw [decide_eq_true (by omega)]; exact (Nat.ble_eq.mpr h).symm
  · rw [decide_eq_false (by omega)]; exact (Bool.eq_false_iff.mpr fun z => h (Nat.ble_eq.mp z)).symm
theorem ltNb {p q : P} {a b : Nat} (hp : pur V.G p L = some (nD a)) (hq : pur V.G q L = some (nD b)) : pur V.G (.o2 .lt p q) L = some (.bl (Nat.blt a b)) := by
  refine (pur2 hp hq).trans ?_
  show some (D.bl (decide ((a : Int) < (b : Int)))) = _
  refine congrArg (fun i => some (D.bl i)) ?_
  by_cases h : a < b
  · rw [decide_eq_true (by omega)]; exact (Nat.blt_eq.mpr h).symm
  · rw [decide_eq_false (by omega)]; exact (Bool.eq_false_iff.mpr fun z => h (Nat.blt_eq.mp z)).symm
theorem gtN {p q : P} {a b : Nat} (hp : pur V.G p L = some (nD a)) (hq : pur V.G q L = some (nD b)) : pur V.G (.o2 .gt p q) L = some (.bl (Nat.blt b a)) := by
  refine (pur2 hp hq).trans ?_
  show some (D.bl (decide ((b : Int) < (a : Int)))) = _
  refine congrArg (fun i => some (D.bl i)) ?_
  by_cases h : b < a
  · rw [decide_eq_true (by omega)]; exact (Nat.blt_eq.mpr h).symm
  · rw [decide_eq_false (by omega)]; exact (Bool.eq_false_iff.mpr fun z => h (Nat.blt_eq.mp z)).symm
theorem eqN {p q : P} {a b : Nat} (hp : pur V.G p L = some (nD a)) (hq : pur V.G q L = some (nD b)) : pur V.G (.o2 .eq p q) L = some (.bl (decide (a = b))) := by
  refine (pur2 hp hq).trans ?_
  show some (D.bl (decide ((a : Int) = (b : Int)))) = _
  refine congrArg (fun i => some (D.bl i)) ?_
  by_cases h : a = b
  · rw [decide_eq_true h, decide_eq_true (by omega)]
  · rw [decide_eq_false h, decide_eq_false (by omega)]
def mn (a b : Nat) : Nat := if Nat.blt b a then b else a
def mx (a b : Nat) : Nat := if Nat.blt a b then b else a
theorem minN {p q : P} {a b : Nat} (hp : pur V.G p L = some (nD a)) (hq : pur V.G q L = some (nD b)) : pur V.G (.o2 .min p q) L = some (nD (mn a b)) := by
  refine (pur2 hp hq).trans ?_
  show some (D.int (if (b : Int) < (a : Int) then (b : Int) else (a : Int))) = _
  refine congrArg (fun i => some (D.int i)) ?_
  unfold mn
  by_cases h : b < a
  · rw [if_pos (by omega), if_pos (Nat.blt_eq.mpr h)]
  · rw [if_neg (by omega), if_neg (fun z => h (Nat.blt_eq.mp z))]
theorem maxN {p q : P} {a b : Nat} (hp : pur V.G p L = some (nD a)) (hq : pur V.G q L = some (nD b)) : pur V.G (.o2 .max p q) L = some (nD (mx a b)) := by
  refine (pur2 hp hq).trans ?_
  show some (D.int (if (b : Int) > (a : Int) then (b : Int) else (a : Int))) = _
  refine congrArg (fun i => some (D.int i)) ?_
  unfold mx
  by_cases h : a < b
  · rw [if_pos (by omega), if_pos (Nat.blt_eq.mpr h)]
  · rw [if_neg (by omega), if_neg (fun z => h (Nat.blt_eq.mp z))]
theorem subN {p q : P} {a b : Nat} (hp : pur V.G p L = some (nD a)) (hq : pur V.G q L = some (nD b)) (h : b ≤ a) : pur V.G (.o2 .sub p q) L = some (nD (a - b)) := by
  refine (pur2 hp hq).trans ?_
  show some (D.int ((a : Int) - (b : Int))) = _
  refine congrArg (fun i => some (D.int i)) ?_
  omega
theorem src_rngN {q : P} {n : Nat} (hq : pur V.G q L = some (nD (n + 1))) (h : (n : Int) < 900000) : src V (.rng (.cons (.p (.int 1)) (.cons (.p q) .nil))) L = .ok ((List.range n).map fun k => nD (k + 1), L) := by
  have := src_rng2 (V := V) (L := L) (p := .int 1) (q := q) (a := 1) (b := ((n + 1 : Nat) : Int)) rfl hq (by omega)
  rw [this]
  have e : (((n + 1 : Nat) : Int) - 1).toNat = n := by omega
  rw [e]
  refine congrArg (fun x => Res.ok (x, L)) (List.map_congr_left fun k _ => congrArg D.int ?_)
  omega
theorem add1 {j : Nat} : ap2 .add (.int 1) (nD j) = some (nD (j + 1)) := congrArg (fun i => some (D.int i)) (show (1 : Int) + (j : Int) = ((j + 1 : Nat) : Int) by omega)
end
/-- the least number from a fraction on -/
def upN (p : Nat × Nat) : Nat := if p.1 / p.2 * p.2 = p.1 then p.1 / p.2 else p.1 / p.2 + 1
theorem up_int {x y : Nat} (hy : 0 < y) : -((-(x : Int)).fdiv (y : Int)) = ((upN (x, y) : Nat) : Int) := by
  rw [Int.fdiv_eq_ediv_of_nonneg _ (by omega)]
  have h0 := Nat.div_add_mod x y
  have h1 := Nat.mod_lt x hy
  have hc : (y : Int) * ((x / y : Nat) : Int) + ((x % y : Nat) : Int) = (x : Int) := by rw [← Int.natCast_mul, ← Int.natCast_add, h0]
  unfold upN
  simp only
  generalize x / y = q at *
  generalize x % y = r at *
  by_cases hr : r = 0
  · subst hr
    rw [if_pos (by rw [Nat.mul_comm]; omega)]
    have : -(x : Int) = (y : Int) * (-(q : Int)) := by rw [Int.mul_neg]; omega
    rw [this, Int.mul_ediv_cancel_left _ (by omega)]
    omega
  · rw [if_neg (by rw [Nat.mul_comm]; omega)]
    have : -(x : Int) = ((y - r : Nat) : Int) + (y : Int) * (-((q : Int) + 1)) := by
      rw [Int.mul_neg, Int.mul_add, Int.mul_one]; omega
    rw [this, Int.add_mul_ediv_left _ _ (by omega), Int.ediv_eq_zero_of_lt (by omega) (by omega)]
    omega
end Q

namespace Q
open PySem L2 PySem.Spec
/-! ## lists of numbers -/
abbrev iL (b : Bool) (xs : List Nat) : D := .lst b (xs.map nD)
abbrev tL (xs : List Nat) : D := .tup (xs.map nD)
theorem fzsN (xs : List Nat) : D.fzs (xs.map nD) = xs.map nD := fzs_map (f := nD) (fun _ => rfl) xs
theorem noOwnN (xs : List Nat) : D.noOwns (xs.map nD) = true := noOwns_map (f := nD) (fun _ => rfl) xs
theorem noShN (xs : List Nat) : D.noShs (xs.map nD) = true := noShs_map (f := nD) (fun _ => rfl) xs
theorem iL_fz (b : Bool) (xs : List Nat) : (iL b xs).fz = iL false xs := by simp only [iL, D.fz, fzsN]
theorem tL_fz (xs : List Nat) : (tL xs).fz = tL xs := by simp only [tL, D.fz, fzsN]
theorem iL_no (xs : List Nat) : (iL false xs).noOwn = true := by simp only [iL, D.noOwn, noOwnN]; rfl
theorem tL_no (xs : List Nat) : (tL xs).noOwn = true := by simp only [tL, D.noOwn, noOwnN]
theorem tL_sh (xs : List Nat) : (tL xs).noSh = true := by simp only [tL, D.noSh, noShN]
theorem iL_sh (xs : List Nat) : (iL true xs).noSh = true := by simp only [iL, D.noSh, noShN]; rfl
/-- a list (nobody's to change) or a tuple of numbers -/
def IL (d : D) (xs : List Nat) : Prop := d = iL false xs ∨ d = tL xs
theorem IL.fz {d : D} {xs : List Nat} (h : IL d xs) : d.fz = d := by rcases h with rfl | rfl; exact iL_fz _ _; exact tL_fz _
theorem IL.no {d : D} {xs : List Nat} (h : IL d xs) : d.noOwn = true := by rcases h with rfl | rfl; exact iL_no _; exact tL_no _
theorem IL.els {d : D} {xs : List Nat} (h : IL d xs) : d.els = some (xs.map nD) := by rcases h with rfl | rfl <;> rfl
section
variable {V : EnvQ} {L L1 : Lcs}
theorem seqW_p {p : P} {d : D} {ds : List D} {f : Lcs → Res (D × Lcs)} (h : pur V.G p L = some d) (he : d.els = some ds) (hn : D.noOwns ds = true) : seqW V (.p p) f L = .ok (d, L) := by
  unfold seqW
  simp only [h, he, hn, if_true]
theorem seqW_e {e : E} {x : Res (D × Lcs)} (hp : isP e = false) (h : den V e L = x) : seqW V e (fun L => den V e L) L = x := by
  cases e <;> first | exact h | (simp [isP] at hp)
theorem x_sqTup {p : P} {d : D} {ds : List D} (h : pur V.G p L = some d) (he : d.els = some ds) (hn : D.noOwns ds = true) : den V (.sq .tuple (.p p)) L = .ok (.tup ds, L) := by
  rw [den_sq, seqW_p h he hn]
  simp only [Res.bind, apS, he, Res.of]
theorem x_sqTupE {e : E} {d : D} {ds : List D} (hp : isP e = false) (h : den V e L = .ok (d, L1)) (he : d.els = some ds) : den V (.sq .tuple e) L = .ok (.tup ds, L1) := by
  rw [den_sq, seqW_e hp h]
  simp only [Res.bind, apS, he, Res.of]
theorem x_sqListE {e : E} {d : D} {ds : List D} (hp : isP e = false) (h : den V e L = .ok (d, L1)) (he : d.els = some ds) : den V (.sq .list e) L = .ok (.lst true ds, L1) := by
  rw [den_sq, seqW_e hp h]
  simp only [Res.bind, apS, he, Res.of]
theorem boolsN2 {α : Type} (f : α → Bool) : ∀ xs : List α, bools? (xs.map fun x => D.bl (f x)) = some (xs.map f)
  | [] => rfl
  | x :: xs => by simp [bools?, boolsN2 f xs]
theorem intsN : ∀ xs : List Nat, ints? (xs.map nD) = some (xs.map fun x : Nat => (x : Int))
  | [] => rfl
  | x :: xs => by simp [ints?, intsN xs]
theorem x_all {e : E} {α : Type} {b : Bool} {f : α → Bool} {xs : List α} (hp : isP e = false) (h : den V e L = .ok (.lst b (xs.map fun x => D.bl (f x)), L1)) : den V (.sq .all e) L = .ok (.bl (xs.all f), L1) := by
  rw [den_sq, seqW_e hp h]
  simp only [Res.bind, apS, boolsN2, Res.of, List.all_map]
  rfl
theorem x_sorted {p : P} {d : D} {xs : List Nat} (h : pur V.G p L = some d) (he : d.els = some (xs.map nD)) : den V (.sq .sorted (.p p)) L = .ok (.lst true ((isort (xs.map fun x : Nat => (x : Int))).map D.int), L) := by
  rw [den_sq, seqW_p h he (noOwnN xs)]
  simp only [Res.bind, apS, he, intsN, Res.of]
theorem rr1 {n : Nat} (hn : (n : Int) < 1000000) : -1000000 < (n : Int) := by omega
theorem rr2 {n : Nat} (hn : (n : Int) < 1000000) : rngRun [nD n] = some (rngD 0 ((n : Int)).toNat) := by
  have h0 := rr1 hn
  simp only [rngRun]
  exact if_pos ⟨h0, hn⟩
theorem rr3 {n : Nat} {y : Option (List D)} (hn : (n : Int) < 1000000) (hy : some (rngD 0 ((n : Int)).toNat) = y) : rngRun [nD n] = y := (rr2 hn).trans hy
theorem rr4 {n : Nat} : rngD 0 ((n : Int)).toNat = (List.range n).map nD := (rngD_map 0 _).trans (rng_nD n)
theorem rr5 {n : Nat} : some (rngD 0 ((n : Int)).toNat) = some ((List.range n).map nD) := congrArg some rr4
theorem rng_run1 {n : Nat} (hn : (n : Int) < 1000000) : rngRun [nD n] = some ((List.range n).map nD) := rr3 hn rr5
theorem bind_ok {α β : Type} {a : α} {f : α → Res β} : (Res.ok a).bind f = f a := rfl
theorem x_lr1a {e : E} {n : Nat} {ds : List D} (h : den V e L = .ok (nD n, L1)) (hr : rngRun [nD n] = some ds) : den V (.lr1 e) L = .ok (.lst true ds, L1) := by
  have e0 : ∀ o : Option (List D), o = some ds → ((Res.of o).bind fun x => Res.ok (D.lst true x, L1)) = .ok (.lst true ds, L1) := fun o ho => by rw [ho]; rfl
  have e1 : den V (.lr1 e) L = (Res.of (rngRun [nD n])).bind fun x => Res.ok (D.lst true x, L1) := by rw [den_lr1, h, bind_ok]
  exact e1.trans (e0 _ hr)
theorem x_lr1 {e : E} {n : Nat} (h : den V e L = .ok (nD n, L1)) (hn : (n : Int) < 1000000) : den V (.lr1 e) L = .ok (iL true (List.range n), L1) := x_lr1a h (rng_run1 hn)
theorem eq_int (x y : Nat) : eqF (nD y) (nD x) = decide (y = x) := by
  show decide ((y : Int) = (x : Int)) = _
  by_cases h : y = x
  · rw [decide_eq_true h, decide_eq_true (by omega)]
  · rw [decide_eq_false h, decide_eq_false (by omega)]
theorem findN (x : Nat) : ∀ (xs : List Nat) (k : Nat), x ∈ xs → findD (nD x) k (xs.map nD) = some (k + xs.idxOf x)
  | [], _, h => by cases h
  | y :: ys, k, h => by
    rw [List.map_cons, findD, eq_int]
    by_cases e : y = x
    · subst e; simp
    · have hx : x ∈ ys := by rcases List.mem_cons.mp h with z | z; exact absurd z.symm e; exact z
      rw [decide_eq_false e, findN x ys (k + 1) hx]
      have hb : (y == x) = false := beq_eq_false_iff_ne.mpr e
      simp only [Bool.false_eq_true, if_false, List.idxOf_cons, hb, cond_false]
      congr 1
      omega
theorem flatN (xs : List Nat) : (xs.map nD).all flatD = true := by rw [List.all_map]; exact List.all_eq_true.mpr fun _ _ => rfl
theorem x_idx {p q : P} {d : D} {xs : List Nat} {x : Nat} (h : pur V.G p L = some d) (he : d.els = some (xs.map nD)) (hq : pur V.G q L = some (nD x)) (hx : x ∈ xs) : den V (.idx (.p p) q) L = .ok (nD (xs.idxOf x), L) := by
  rw [den_idx, seqW_p h he (noOwnN xs)]
  simp only [Res.bind, he, Res.of, hq, idxRun, flatN, findN x xs 0 hx, Nat.zero_add, Bool.and_true]
  rfl
theorem x_idxE {e : E} {q : P} {d : D} {xs : List Nat} {x : Nat} (hp : isP e = false) (h : den V e L = .ok (d, L1)) (he : d.els = some (xs.map nD)) (hq : pur V.G q L1 = some (nD x)) (hx : x ∈ xs) : den V (.idx e q) L = .ok (nD (xs.idxOf x), L1) := by
  rw [den_idx, seqW_e hp h]
  simp only [Res.bind, he, Res.of, hq, idxRun, flatN, findN x xs 0 hx, Nat.zero_add, Bool.and_true]
  rfl
theorem cut_to (xs : List Nat) (p : Nat) : cutP (xs.map nD) none (some (p : Int)) = (xs.take p).map nD := by
  unfold cutP
  have e1 : HT.sIx (xs.map nD).length 0 none = 0 := rfl
  have e2 : HT.sIx (xs.map nD).length (xs.map nD).length (some (p : Int)) = min p xs.length := (HT.sIx_nat _ _ p).trans (by rw [List.length_map])
  rw [e1, e2, List.drop_zero, Nat.sub_zero, List.map_take]
  by_cases h : p ≤ xs.length
  · rw [Nat.min_eq_left h]
  · rw [Nat.min_eq_right (by omega), List.take_of_length_le (by simp), List.take_of_length_le (by simp; omega)]
theorem cut_from (xs : List Nat) (p : Nat) : cutP (xs.map nD) (some (p : Int)) none = (xs.drop p).map nD := by
  unfold cutP
  have e1 : HT.sIx (xs.map nD).length 0 (some (p : Int)) = min p xs.length := (HT.sIx_nat _ _ p).trans (by rw [List.length_map])
  have e2 : HT.sIx (xs.map nD).length (xs.map nD).length none = xs.length := by simp [HT.sIx]
  rw [e1, e2, List.map_drop, List.take_of_length_le (by simp)]
  by_cases h : p ≤ xs.length
  · rw [Nat.min_eq_left h]
  · rw [Nat.min_eq_right (by omega), List.drop_of_length_le (by simp), List.drop_of_length_le (by simp; omega)]
theorem x_sliceTo {q r : P} {b : Bool} {xs : List Nat} {p : Nat} (hq : pur V.G q L = some (iL b xs)) (hr : pur V.G r L = some (nD p)) : den V (.slice (.p q) .nil (.cons (.p r) .nil)) L = .ok (iL true (xs.take p), L) := by
  rw [den_slice, seqW_p hq rfl (noOwnN xs)]
  have c : cutO V.G .nil (.cons (.p r) .nil) L (iL b xs) = some (iL true (xs.take p)) := by
    simp only [cutO, posOf, hr, cutRun, cut_to]
  simp only [Res.bind, c, Res.of]
theorem x_sliceFrom {q r : P} {b : Bool} {xs : List Nat} {p : Nat} (hq : pur V.G q L = some (iL b xs)) (hr : pur V.G r L = some (nD p)) : den V (.slice (.p q) (.cons (.p r) .nil) .nil) L = .ok (iL true (xs.drop p), L) := by
  rw [den_slice, seqW_p hq rfl (noOwnN xs)]
  have c : cutO V.G (.cons (.p r) .nil) .nil L (iL b xs) = some (iL true (xs.drop p)) := by
    simp only [cutO, posOf, hr, cutRun, cut_from]
  simp only [Res.bind, c, Res.of]
theorem x_sliceFromT {q r : P} {xs : List Nat} {p : Nat} (hq : pur V.G q L = some (tL xs)) (hr : pur V.G r L = some (nD p)) (hp : 0 < p) (hx : 0 < xs.length) : den V (.slice (.p q) (.cons (.p r) .nil) .nil) L = .ok (tL (xs.drop p), L) := by
  rw [den_slice, seqW_p hq rfl (noOwnN xs)]
  have c : cutO V.G (.cons (.p r) .nil) .nil L (tL xs) = some (tL (xs.drop p)) := by
    simp only [cutO, posOf, hr, cutRun, cut_from]
    rw [if_neg]
    rintro ⟨h1, _⟩
    have e1 : HT.sIx (xs.map nD).length 0 (some (p : Int)) = min p (xs.map nD).length := HT.sIx_nat _ _ p
    rw [e1, List.length_map] at h1
    omega
  simp only [Res.bind, c, Res.of]
theorem x_cat {a b : E} {ds es : List D} {b1 b2 : Bool} {La Lb : Lcs} (h1 : den V a L = .ok (.lst b1 ds, La)) (h2 : den V b La = .ok (.lst b2 es, Lb)) (hl : ds.length + es.length ≤ 1000000) : den V (.cat a b) L = .ok (.lst true (ds ++ es), Lb) := by
  rw [den_cat, h1]
  simp only [Res.bind, h2, catRun, hl, if_true, Res.of]
theorem x_len {e : E} {d : D} {ds : List D} (hp : isP e = false) (h : den V e L = .ok (d, L1)) (he : d.els = some ds) : den V (.o1 .len e) L = .ok (nD ds.length, L1) := by
  rw [den_o1, rdE hp h]
  cases d <;> simp only [D.els, Option.some.injEq, reduceCtorEq] at he <;> (subst he; rfl)
theorem x_star {fl : List Bool} {es : Es} {ds rs : List D} (h : dens V es L = .ok (ds, L1)) (hs : spliceD fl ds = some rs) (hl : rs.length ≤ 1000000) : den V (.star fl es) L = .ok (.lst true rs, L1) := by
  rw [den_star, h]
  show (Res.of (starRun fl ds)).bind _ = _
  unfold starRun
  simp only [hs, hl, if_true, Res.of, Res.bind]
theorem eqD_ints (b c : Bool) (xs : List Int) : eqD (.lst b (xs.map D.int)) (.lst c (xs.map D.int)) = some true := by
  have h1 : SeqAt.shaped (.list (xs.map PyData.int)) = true := by simp [SeqAt.shaped, PyData.canLay0, lay_ints, PyData.depth, depth_ints]
  have h2 : PyData.eqv (.list (xs.map PyData.int)) (.list (xs.map PyData.int)) = true := by
    have : ∀ ys : List Int, PyData.eqvAll (ys.map PyData.int) (ys.map PyData.int) = true := by
      intro ys
      induction ys with
      | nil => rfl
      | cons y ys ih => simp [PyData.eqvAll, PyData.eqv, ih]
    simp [PyData.eqv, this]
  simp only [eqD, D.toPy, toPys_ints, h1, h2, Bool.and_self, if_true]
theorem ixN2 {p q : P} {d : D} {xs : List Nat} {k x : Nat} (h : pur V.G p L = some d) (he : IL d xs ∨ ∃ b, d = iL b xs) (hq : pur V.G q L = some (nD k)) (hx : xs[k]? = some x) : pur V.G (.o2 .ix p q) L = some (nD x) := by
  refine (pur2 h hq).trans ?_
  rcases he with (rfl | rfl) | ⟨b, rfl⟩ <;> exact atN (f := nD) hx
theorem lenN {p : P} {d : D} {xs : List Nat} (h : pur V.G p L = some d) (he : IL d xs ∨ ∃ b, d = iL b xs) : pur V.G (.o1 .len p) L = some (nD xs.length) := by
  refine (pur1 h).trans ?_
  rcases he with (rfl | rfl) | ⟨b, rfl⟩ <;> (show some (D.int (((xs.map nD).length : Nat) : Int)) = _; rw [List.length_map])
theorem neN {p q : P} {a b : Nat} (hp : pur V.G p L = some (nD a)) (hq : pur V.G q L = some (nD b)) : pur V.G (.o2 .ne p q) L = some (.bl (!decide (a = b))) := by
  refine (pur2 hp hq).trans ?_
  show some (D.bl (!decide ((a : Int) = (b : Int)))) = _
  refine congrArg (fun i => some (D.bl (!i))) ?_
  by_cases h : a = b
  · rw [decide_eq_true h, decide_eq_true (by omega)]
  · rw [decide_eq_false h, decide_eq_false (by omega)]
theorem src_IL {i : Nat} {d : D} {xs : List Nat} (h : L[i]? = some (some d)) (he : IL d xs) : src V (.e (.p (.var i))) L = .ok (xs.map nD, L) := src_var h he.no (by rw [he.fz]; exact he.els)
/-- a call whose first argument is changed -/
theorem cal_io {T : Tab} {G : Str → Option D} {N m : Nat} {f : Str} {fn : FnD} {i : Nat} {es : Es} {as : List Arg} {L L1 Ly Lz : Lcs} {ds : List D} {S d S' : D} (l : T.lookup f = some fn) (hmd : fn.md = [true]) (hL : L[i]? = some (some S)) (ha : args (envN T G N m) [] es L = .ok (as, L1)) (hl : (Arg.io i :: as).length = fn.ps.length) (hv : argVals (.io i :: as) L1 = some (ds, Ly)) (ho : lentOk (.io i :: as) Ly = true) (hc : (envN T G N m).call f ds = .ok (d, [some S']))
    (hp : putBack (.io i :: as) [some S'] (if (d.noSh && S'.noSh) = true then Ly else fzLent (.io i :: as) Ly) = some Lz) : den (envN T G N m) (.call f [] (.cons (.p (.var i)) es)) L = .ok (d, Lz) := by
  rw [den_call, show (envN T G N m).md f = [true] from (envN_md l).trans hmd, arg_io (d := S) rfl hL ha]
  simp only [Res.bind]
  rw [if_pos (by rw [hl, show (envN T G N m).ar f = fn.ps from envN_ar l])]
  unfold callRun
  rw [hv]
  simp only [ho, if_true, hc, outNoSh, Bool.and_true]
  split at hp
  · rename_i h
    rw [if_pos h, hp]
  · rename_i h
    rw [if_neg h, hp]
/-- a call that may tell what is lent -/
theorem calX {T : Tab} {G : Str → Option D} {N m : Nat} {f : Str} {fn : FnD} {es : Es} {as : List Arg} {L L1 Lz : Lcs} {ds : List D} {d : D} (l : T.lookup f = some fn) (ha : args (envN T G N m) [] es L = .ok (as, L1)) (hc : (envN T G N m).call f ds = .ok (d, [])) (hmd : fn.md = []) (hl : as.length = fn.ps.length) (hv : argVals as L1 = some (ds, L1)) (ho : lentOk as L1 = true) (hp : putBack as [] (if d.noSh = true then L1 else fzLent as L1) = some Lz) : den (envN T G N m) (.call f [] es) L = .ok (d, Lz) := by
  rw [den_call, show (envN T G N m).md f = [] from (envN_md l).trans hmd, ha]
  simp only [Res.bind]
  rw [if_pos (by rw [hl, show (envN T G N m).ar f = fn.ps from envN_ar l])]
  unfold callRun
  rw [hv]
  simp only [ho, if_true, hc, outNoSh, Bool.and_true]
  split at hp
  · rename_i h
    rw [if_pos h, hp]
  · rename_i h
    rw [if_neg h, hp]
theorem ixN_ok {n x : Nat} (h : x < n) : ixN n (x : Int) = some x := by
  unfold ixN
  rw [if_pos (by omega), if_pos (by omega)]
  simp
theorem q_setx {V : EnvQ} {L : Lcs} {i : Nat} {k e : P} {ss : Ss} {r : RS} {cs : List Nat} {x v : Nat} (h0 : L[i]? = some (some (iL true cs))) (hk : pur V.G k L = some (nD x)) (he : pur V.G e L = some (nD v)) (hx : x < cs.length) (h2 : runSs V ss (L.set i (some (iL true (cs.set x v)))) = r) : runSs V (.cons (.setx i [] k (.p e)) ss) L = r := by
  refine (nx_cons ?_).trans h2
  rw [run_setx, keepD he rfl]
  simp only [Res.seq, setxRun, h0, pathInts, hk, updPath, List.length_map, ixN_ok hx, RS.of]
  refine congrArg (fun l => RS.nx (L.set i (some (D.lst true l)))) ?_
  rw [List.map_set]
theorem rep_flat (n : Nat) : (List.replicate n [nD 0]).flatten = (List.replicate n 0).map nD := by
  induction n with
  | zero => rfl
  | succ n ih => rw [List.replicate_succ, List.flatten_cons, ih, List.replicate_succ]; rfl
theorem x_rep0 {V : EnvQ} {L : Lcs} {p : P} {n : Nat} (h : pur V.G p L = some (nD n)) (hn : n ≤ 1000) : den V (.rep (.lst (.cons (.p (.int 0)) .nil)) (.p p)) L = .ok (iL true (List.replicate n 0), L) := by
  rw [den_rep, x_lst (q_cons (keepD (d := nD 0) rfl rfl) q_end)]
  simp only [Res.bind]
  rw [rdP h]
  have e : repRun (.lst true [nD 0]) (nD n) = some (iL true (List.replicate n 0)) := by
    simp only [repRun]
    rw [if_pos]
    · rw [Int.toNat_natCast, rep_flat]
    · simp only [D.noOwns, D.noOwn, Bool.and_self, Bool.true_and, List.length_cons, List.length_nil, Bool.and_eq_true, decide_eq_true_eq, Int.toNat_natCast]
      omega
  simp only [e, Res.of]
/-- an own list, for keeps: it is lent for good -/
theorem x_fz {V : EnvQ} {L : Lcs} {i : Nat} {xs : List Nat} (h : L[i]? = some (some (iL true xs))) : den V (.p (.var i)) L = .ok (iL false xs, L.set i (some (iL false xs))) := by
  rw [den_p]
  have e : pur V.G (.var i) L = some (iL true xs) := by simp only [pur, h]
  have n : (iL true xs).noOwn = false := rfl
  unfold keepP
  rw [e]
  simp only [n, Bool.false_eq_true, if_false, P.root, fzAt, h, iL_fz]
theorem eqD_str {r s : Str} (h : (SeqAt.shaped (.str r) && SeqAt.shaped (.str s)) = true) : eqD (.str r) (.str s) = some (decide (r = s)) := by
  have e : (r == s) = decide (r = s) := by
    by_cases h : r = s
    · subst h; simp
    · rw [decide_eq_false h]; exact beq_eq_false_iff_ne.mpr h
  simp only [eqD, D.toPy]
  rw [if_pos h]
  show some (r == s) = _
  rw [e]
theorem eqSt {V : EnvQ} {L : Lcs} {p : P} {r s : Str} {b : Bool} (h : pur V.G p L = some (.str r)) (h2 : (SeqAt.shaped (.str r) && SeqAt.shaped (.str s)) = true) (hb : decide (r = s) = b) : pur V.G (.o2 .eq p (.str s)) L = some (.bl b) := by
  refine (pur2 h rfl).trans ?_
  show (match eqD (.str r) (.str s) with | some b => some (D.bl b) | none => none) = _
  rw [eqD_str h2, hb]
/-! the values of arguments -/
theorem avE {L : Lcs} : argVals [] L = some ([], L) := rfl
theorem avB {i : Nat} {d d' : D} {as : List Arg} {ds : List D} {L Ly : Lcs} (h : L[i]? = some (some d)) (f : d.fz = d') (h2 : argVals as L = some (ds, Ly)) : argVals (.bor i :: as) L = some (d' :: ds, Ly) := by simp only [argVals, h, h2, f]
theorem avV {d d' : D} {as : List Arg} {ds : List D} {L Ly : Lcs} (f : d.fz = d') (h2 : argVals as L = some (ds, Ly)) : argVals (.val d :: as) L = some (d' :: ds, Ly) := by simp only [argVals, h2, f]
theorem avI {i : Nat} {d : D} {as : List Arg} {ds : List D} {L Ly : Lcs} (h : L[i]? = some (some d)) (h2 : argVals as (L.set i none) = some (ds, Ly)) : argVals (.io i :: as) L = some (d :: ds, Ly) := by simp only [argVals, h, h2]
theorem av1 {i : Nat} {d : D} {L : Lcs} (h : L[i]? = some (some d)) (f : d.fz = d) : argVals [.bor i] L = some ([d], L) := avB h f avE
/-- a call whose first argument is changed, what is lent being frozen already -/
theorem cal_ioZ {T : Tab} {G : Str → Option D} {N m : Nat} {f : Str} {fn : FnD} {i : Nat} {es : Es} {as : List Arg} {L L1 Ly Lz : Lcs} {ds : List D} {S d S' : D} (l : T.lookup f = some fn) (hL : L[i]? = some (some S)) (ha : args (envN T G N m) [] es L = .ok (as, L1)) (hc : (envN T G N m).call f ds = .ok (d, [some S'])) (hv : argVals (.io i :: as) L1 = some (ds, Ly)) (hz : fzLent (.io i :: as) Ly = Ly) (hmd : fn.md = [true] := by rfl) (hl : (Arg.io i :: as).length = fn.ps.length := by rfl) (ho : lentOk (.io i :: as) Ly = true := by rfl)
    (hp : putBack (.io i :: as) [some S'] Ly = some Lz := by rfl) : den (envN T G N m) (.call f [] (.cons (.p (.var i)) es)) L = .ok (d, Lz) :=
  cal_io l hmd hL ha hl hv ho hc (by rw [hz]; split <;> exact hp)
theorem calZ {T : Tab} {G : Str → Option D} {N m : Nat} {f : Str} {fn : FnD} {es : Es} {as : List Arg} {L L1 Lz : Lcs} {ds : List D} {d : D} (l : T.lookup f = some fn) (ha : args (envN T G N m) [] es L = .ok (as, L1)) (hc : (envN T G N m).call f ds = .ok (d, [])) (hv : argVals as L1 = some (ds, L1)) (hz : fzLent as L1 = L1) (hmd : fn.md = [] := by rfl) (hl : as.length = fn.ps.length := by rfl) (ho : lentOk as L1 = true := by rfl) (hp : putBack as [] L1 = some Lz := by rfl) : den (envN T G N m) (.call f [] es) L = .ok (d, Lz) :=
  calX l ha hc hmd hl hv ho (by rw [hz]; split <;> exact hp)
theorem fz1 {i : Nat} {d : D} {as : List Arg} {L : Lcs} (h : L[i]? = some (some d)) (f : d.fz = d) (h2 : fzLent as L = L) : fzLent (.bor i :: as) L = L := by
  have e : fzAt L i = L := by
    unfold fzAt
    rw [h]
    simp only [f]
    have hi := (List.getElem?_eq_some_iff.mp h)
    rw [← hi.2]
    exact List.set_getElem_self hi.1
  simp only [fzLent, e, h2]
theorem fz0 {L : Lcs} : fzLent [] L = L := rfl
theorem fzI {i : Nat} {as : List Arg} {L : Lcs} (h : fzLent as L = L) : fzLent (.io i :: as) L = L := h
theorem fzV {d : D} {as : List Arg} {L : Lcs} (h : fzLent as L = L) : fzLent (.val d :: as) L = L := h
/-- a def that changes its first parameter -/
theorem call_io {T : Tab} {G : Str → Option D} {N m : Nat} {f : Str} {fn : FnD} {ds : List D} {d S : D} {L' : Lcs} (hT : T.lookup f = some fn) (hp : fn.prim = none) (hmd : fn.md = [true]) (h : runSs (envN T G N m) fn.body (slotsOf fn.N ds) = .rt d (some S :: L')) : (envN T G N (m + 1)).call f ds = .ok (d, [some S]) := by
  rw [envN_call hT]
  unfold callF
  rw [hp]
  simp only [h, hmd, retF]
  cases L' <;> rfl
theorem lc3 {V : EnvQ} {vs : List Nat} {tg : Tg} {s : Src} {e : E} {L L0 La Lb Lc Ld Le Lf : Lcs} {x1 x2 x3 d1 d2 d3 : D} (hs : src V s L = .ok ([x1, x2, x3], L0)) (a1 : tg.set x1 (wipeL L0 vs) = some La) (b1 : den V e La = .ok (d1, Lb)) (a2 : tg.set x2 (wipeL Lb vs) = some Lc) (b2 : den V e Lc = .ok (d2, Ld)) (a3 : tg.set x3 (wipeL Ld vs) = some Le) (b3 : den V e Le = .ok (d3, Lf)) :
    den V (.lc vs tg s .nil e) L = .ok (.lst true [d1, d2, d3], resetTo L0 (wipeL Lf vs) vs) := by
  rw [den_lc, hs]
  simp only [Res.bind, lcRun, a1, conds_nil, b1, a2, b2, a3, b3]
/-- one thing taken out -/
theorem x_pop {V : EnvQ} {L L1 : Lcs} {i : Nat} {e : E} {xs : List Nat} {j : Nat} (h0 : L[i]? = some (some (iL true xs))) (h : den V e L = .ok (nD j, L1)) (h1 : L1[i]? = some (some (iL true xs))) (hj : j < xs.length) : den V (.popi i [] (.cons e .nil)) L = .ok (nD (xs.getD j 0), L1.set i (some (iL true (xs.eraseIdx j)))) := by
  rw [den_pop1]
  have e1 : (xs.map nD)[j]? = some (nD (xs.getD j 0)) := by simp [hj]
  have e2 : (xs.map nD).eraseIdx j = (xs.eraseIdx j).map nD := by
    rw [List.eraseIdx_eq_take_drop_succ, List.eraseIdx_eq_take_drop_succ, List.map_append, List.map_take, List.map_drop]
  have e3 : popRun V.G i [] (j : Int) L1 = some (nD (xs.getD j 0), L1.set i (some (iL true (xs.eraseIdx j)))) := by
    simp only [popRun, h1, pathInts, atPath, List.length_map, ixN_ok hj, e1, updPath, e2]
  simp only [lstAt, h0, Res.of, Res.bind, h, intOf, e3]
/-! sameness -/
mutual
def D.pl : Nat → D → Bool
  | 0, _ => false
  | k + 1, d => match d with
    | .int _ => true
    | .bl _ => true
    | .non => true
    | .tup ds => D.pls k ds
    | .lst _ ds => D.pls k ds
    | _ => false
def D.pls : Nat → List D → Bool
  | _, [] => true
  | k, d :: ds => D.pl k d && D.pls k ds
end
theorem pls_all (k : Nat) : ∀ ds : List D, D.pls k ds = ds.all (D.pl k)
  | [] => by simp [D.pls]
  | d :: ds => by simp [D.pls, pls_all k ds]
theorem sm_refl : ∀ (k : Nat) (d : D), D.pl k d = true → sm k d d = true
  | 0, d, h => by simp [D.pl] at h
  | k + 1, d, h => by
    have zz : ∀ ds : List D, D.pls k ds = true → (ds.zip ds).all (fun p => sm k p.1 p.2) = true := fun ds hd => by
      rw [pls_all] at hd
      refine List.all_eq_true.mpr fun p hp => ?_
      obtain ⟨i, hi, rfl⟩ := List.getElem_of_mem hp
      simp only [List.getElem_zip]
      refine sm_refl k _ (List.all_eq_true.mp hd _ (List.getElem_mem _))
    cases d with
    | int i => simp [sm]
    | bl b => simp [sm]
    | non => simp [sm]
    | tup ds => simp only [D.pl] at h; simp only [sm, decide_true, Bool.true_and]; exact zz ds h
    | lst b ds => simp only [D.pl] at h; simp only [sm, decide_true, Bool.true_and]; exact zz ds h
    | str s => simp [D.pl] at h
    | dic o ks ds => simp [D.pl] at h
    | frz ds => simp [D.pl] at h
theorem plN (k : Nat) (xs : List Nat) : D.pls (k + 1) (xs.map nD) = true := by
  rw [pls_all, List.all_map]
  exact List.all_eq_true.mpr fun _ _ => rfl
end
end Q

namespace Q
open PySem L2 PySem.Spec
/-! ## things of any shape -/
theorem els_len {d : D} {ds : List D} (h : d.els = some ds) : ap1 .len d = some (nD ds.length) := by
  cases d <;> simp only [D.els, Option.some.injEq, reduceCtorEq] at h <;> (subst h; rfl)
theorem els_isi {d : D} : (["list", "tuple"].any d.isT) = d.els.isSome := by cases d <;> rfl
theorem els_ix {d : D} {ds : List D} (h : d.els = some ds) {i : Int} {x : D} (hx : atI ds i = some x) : ap2 .ix d (.int i) = some x := by
  cases d <;> simp only [D.els, Option.some.injEq, reduceCtorEq] at h <;> (subst h; exact hx)
theorem at_nat {ds : List D} {i : Nat} {x : D} (h : ds[i]? = some x) : atI ds (i : Int) = some x := by
  have := atN (f := fun d : D => d) h
  rwa [List.map_id'] at this
def small : Nat → D → Bool
  | 0, d => flatD d
  | k + 1, d => match d with
    | .tup ds => decide (ds.length ≤ 20) && ds.all (small k)
    | .lst _ ds => decide (ds.length ≤ 20) && ds.all (small k)
    | .dic _ ks ds => ks.isEmpty && ds.isEmpty
    | .frz _ => false
    | _ => true
theorem small_flat {d : D} (h : flatD d = true) : ∀ k, small k d = true
  | 0 => h
  | k + 1 => by cases d <;> first | rfl | (simp [flatD] at h)
theorem small_up {d : D} : ∀ {k}, small k d = true → small (k + 1) d = true := by
  intro k
  induction k generalizing d with
  | zero => exact fun h => small_flat h 1
  | succ k ih =>
    intro h
    cases d <;> first | rfl | exact h | skip
    · simp only [small, Bool.and_eq_true, List.all_eq_true] at h ⊢
      exact ⟨h.1, fun x hx => ih (h.2 x hx)⟩
    · simp only [small, Bool.and_eq_true, List.all_eq_true] at h ⊢
      exact ⟨h.1, fun x hx => ih (h.2 x hx)⟩
mutual
/-- own at every depth -/
def D.ow : D → D
  | .tup ds => .tup (D.ows ds)
  | .lst _ ds => .lst true (D.ows ds)
  | .frz ds => .lst true (D.ows ds)
  | .dic _ ks ds => .dic true ks (D.ows ds)
  | d => d
def D.ows : List D → List D
  | [] => []
  | d :: ds => d.ow :: D.ows ds
/-- lists and tuples alike -/
def D.nm : D → D
  | .tup ds => .tup (D.nms ds)
  | .lst _ ds => .tup (D.nms ds)
  | .frz ds => .tup (D.nms ds)
  | .dic _ ks ds => .dic true ks (D.nms ds)
  | d => d
def D.nms : List D → List D
  | [] => []
  | d :: ds => d.nm :: D.nms ds
end
theorem ows_eq : ∀ ds : List D, D.ows ds = ds.map D.ow
  | [] => rfl
  | d :: ds => by rw [D.ows, ows_eq ds]; rfl
theorem nms_eq : ∀ ds : List D, D.nms ds = ds.map D.nm
  | [] => rfl
  | d :: ds => by rw [D.nms, nms_eq ds]; rfl
mutual
theorem ow_nm : ∀ d : D, d.ow.nm = d.nm
  | .tup ds => by simp [D.ow, D.nm, ows_nms ds]
  | .lst b ds => by simp [D.ow, D.nm, ows_nms ds]
  | .frz ds => by simp [D.ow, D.nm, ows_nms ds]
  | .dic b ks ds => by simp [D.ow, D.nm, ows_nms ds]
  | .non | .bl _ | .int _ | .str _ => by simp [D.ow]
theorem ows_nms : ∀ ds : List D, D.nms (D.ows ds) = D.nms ds
  | [] => rfl
  | d :: ds => by rw [D.ows, D.nms, D.nms, ow_nm d, ows_nms ds]
end
mutual
theorem fz_nm : ∀ d : D, d.fz.nm = d.nm
  | .tup ds => by simp [D.fz, D.nm, fzs_nms ds]
  | .lst b ds => by simp [D.fz, D.nm, fzs_nms ds]
  | .frz ds => by simp [D.fz]
  | .dic b ks ds => by simp [D.fz, D.nm, fzs_nms ds]
  | .non | .bl _ | .int _ | .str _ => by simp [D.fz]
theorem fzs_nms : ∀ ds : List D, D.nms (D.fzs ds) = D.nms ds
  | [] => rfl
  | d :: ds => by rw [D.fzs, D.nms, D.nms, fz_nm d, fzs_nms ds]
end
mutual
theorem ow_noSh : ∀ d : D, d.ow.noSh = true
  | .tup ds => by simp [D.ow, D.noSh, ows_noSh ds]
  | .lst b ds => by simp [D.ow, D.noSh, ows_noSh ds]
  | .frz ds => by simp [D.ow, D.noSh, ows_noSh ds]
  | .dic b ks ds => by simp [D.ow, D.noSh, ows_noSh ds]
  | .non | .bl _ | .int _ | .str _ => by simp [D.ow, D.noSh]
theorem ows_noSh : ∀ ds : List D, D.noShs (D.ows ds) = true
  | [] => rfl
  | d :: ds => by rw [D.ows, D.noShs, ow_noSh d, ows_noSh ds]; rfl
end
mutual
theorem fzfz : ∀ d : D, d.fz.fz = d.fz
  | .tup ds => by simp [D.fz, fzfzs ds]
  | .lst b ds => by simp [D.fz, fzfzs ds]
  | .frz ds => by simp [D.fz]
  | .dic b ks ds => by simp [D.fz, fzfzs ds]
  | .non | .bl _ | .int _ | .str _ => by simp [D.fz]
theorem fzfzs : ∀ ds : List D, D.fzs (D.fzs ds) = D.fzs ds
  | [] => rfl
  | d :: ds => by rw [D.fzs, D.fzs, fzfz d, fzfzs ds]
end
theorem small_fz : ∀ (k : Nat) {d : D}, small k d = true → small k d.fz = true
  | 0, d, h => by cases d <;> first | exact h | (simp [small, flatD] at h)
  | k + 1, d, h => by
    cases d <;> first | exact h | skip
    · simp only [small, D.fz, Bool.and_eq_true, List.all_eq_true, fzs_eq, List.length_map, decide_eq_true_eq] at h ⊢
      refine ⟨h.1, fun x hx => ?_⟩
      obtain ⟨y, hy, rfl⟩ := List.mem_map.mp hx
      exact small_fz k (h.2 y hy)
    · simp only [small, D.fz, Bool.and_eq_true, List.all_eq_true, fzs_eq, List.length_map, decide_eq_true_eq] at h ⊢
      refine ⟨h.1, fun x hx => ?_⟩
      obtain ⟨y, hy, rfl⟩ := List.mem_map.mp hx
      exact small_fz k (h.2 y hy)
    · rename_i b ks ds
      simp only [small, D.fz, Bool.and_eq_true, List.isEmpty_iff] at h ⊢
      obtain ⟨h1, h2⟩ := h
      subst h1; subst h2
      exact ⟨rfl, rfl⟩
theorem small_ow : ∀ (k : Nat) {d : D}, small k d = true → small k d.ow = true
  | 0, d, h => by cases d <;> first | exact h | (simp [small, flatD] at h)
  | k + 1, d, h => by
    cases d <;> first | exact h | (simp [small] at h; done) | skip
    · simp only [small, D.ow, Bool.and_eq_true, List.all_eq_true, ows_eq, List.length_map, decide_eq_true_eq] at h ⊢
      refine ⟨h.1, fun x hx => ?_⟩
      obtain ⟨y, hy, rfl⟩ := List.mem_map.mp hx
      exact small_ow k (h.2 y hy)
    · simp only [small, D.ow, Bool.and_eq_true, List.all_eq_true, ows_eq, List.length_map, decide_eq_true_eq] at h ⊢
      refine ⟨h.1, fun x hx => ?_⟩
      obtain ⟨y, hy, rfl⟩ := List.mem_map.mp hx
      exact small_ow k (h.2 y hy)
    · rename_i b ks ds
      simp only [small, D.ow, Bool.and_eq_true, List.isEmpty_iff] at h ⊢
      obtain ⟨h1, h2⟩ := h
      subst h1; subst h2
      exact ⟨rfl, rfl⟩
/-- what is handed: small, nobody's to change -/
structure Ar (k : Nat) (d : D) : Prop where
  sm : small k d = true
  fz : d.fz = d
theorem Ar.no {k : Nat} {d : D} (h : Ar k d) : d.noOwn = true := by rw [← h.fz]; exact noOwn_fz d
theorem Ar.of {k : Nat} {d : D} (h : small k d = true) : Ar k d.fz := ⟨small_fz k h, fzfz d⟩
theorem Ar.up {k : Nat} {d : D} (h : Ar k d) : Ar (k + 1) d := ⟨small_up h.sm, h.fz⟩
theorem Ar.case {k : Nat} {d : D} (h : Ar k d) : (∃ ds j, d.els = some ds ∧ k = j + 1 ∧ ds.length ≤ 20 ∧ (∀ x ∈ ds, Ar j x) ∧ (d = .tup ds ∨ d = .lst false ds)) ∨ (d.els = none ∧ (flatD d = true ∨ d = .dic false [] [])) := by
  obtain ⟨hs, hf⟩ := h
  cases k with
  | zero => cases d <;> first | exact .inr ⟨rfl, .inl rfl⟩ | (simp [small, flatD] at hs)
  | succ j =>
    cases d with
    | tup ds =>
      simp only [small, Bool.and_eq_true, List.all_eq_true, decide_eq_true_eq] at hs
      have hf : D.fzs ds = ds := by simpa [D.fz] using hf
      exact .inl ⟨ds, j, rfl, rfl, hs.1, fun x hx => ⟨hs.2 x hx, fzs_mem hf x hx⟩, .inl rfl⟩
    | lst b ds =>
      simp only [small, Bool.and_eq_true, List.all_eq_true, decide_eq_true_eq] at hs
      have hf2 : b = false ∧ D.fzs ds = ds := by simpa [D.fz, eq_comm] using hf
      obtain ⟨hb, hf2⟩ := hf2
      subst hb
      exact .inl ⟨ds, j, rfl, rfl, hs.1, fun x hx => ⟨hs.2 x hx, fzs_mem hf2 x hx⟩, .inr rfl⟩
    | dic b ks ds =>
      simp only [small, Bool.and_eq_true, List.isEmpty_iff] at hs
      have hf : b = false ∧ D.fzs ds = ds := by simpa [D.fz, eq_comm] using hf
      obtain ⟨rfl, _⟩ := hf
      obtain ⟨rfl, rfl⟩ := hs
      exact .inr ⟨rfl, .inr rfl⟩
    | frz ds => simp [small] at hs
    | _ => exact .inr ⟨rfl, .inl rfl⟩
theorem Ar.els {k : Nat} {d : D} {ds : List D} (h : Ar (k + 1) d) (he : d.els = some ds) : ds.length ≤ 20 ∧ ∀ x ∈ ds, Ar k x := by
  rcases h.case with ⟨es, j, h1, h2, h3, h4, _⟩ | ⟨h1, _⟩
  · rw [he] at h1; cases h1
    cases h2
    exact ⟨h3, h4⟩
  · rw [he] at h1; cases h1

/-! ## a def of the table -/
structure FnIs (T : Tab) (f : Str) (ps : List Str) (N : Nat) (md : List Bool) (body : Ss) : Prop where
  ex : ∃ fn, T.lookup f = some fn ∧ fn.prim = none ∧ fn.md = md ∧ fn.ps = ps ∧ fn.N.length = N ∧ fn.body = body
section
variable {T : Tab} {G : Str → Option D} {N0 m : Nat} {f : Str} {ps : List Str} {N : Nat} {md : List Bool} {body : Ss}
theorem FnIs.call (h : FnIs T f ps N md body) (ds : List D) : (envN T G N0 (m + 1)).call f ds = retF md (runSs (envN T G N0 m) body (ds.map some ++ List.replicate (N - ds.length) none)) := by
  obtain ⟨fn, h1, h2, h3, h4, h5, h6⟩ := h.ex
  rw [envN_call h1]
  unfold callF
  rw [h2]
  simp only [slotsOf, h3, h5, h6]
theorem FnIs.mdE (h : FnIs T f ps N md body) : (envN T G N0 m).md f = md := by obtain ⟨fn, h1, h2, h3, h4, h5, h6⟩ := h.ex; rw [envN_md h1, h3]
theorem FnIs.arE (h : FnIs T f ps N md body) : (envN T G N0 m).ar f = ps := by obtain ⟨fn, h1, h2, h3, h4, h5, h6⟩ := h.ex; rw [envN_ar h1, h4]
theorem ret0 {r : RS} {d : D} {L : Lcs} (h : r = .rt d L) : retF [] r = .ok (d, []) := by
  subst h
  show Res.ok (d, ioOuts [] L) = _
  cases L <;> rfl
theorem ret1 {r : RS} {d S : D} {L : Lcs} (h : r = .rt d (some S :: L)) : retF [true] r = .ok (d, [some S]) := by
  subst h
  show Res.ok (d, ioOuts [true] (some S :: L)) = _
  cases L <;> rfl
theorem calF {es : Es} {as : List Arg} {L L1 Lz : Lcs} {ds : List D} {d : D} (h : FnIs T f ps N [] body) (ha : args (envN T G N0 m) [] es L = .ok (as, L1)) (hc : (envN T G N0 m).call f ds = .ok (d, [])) (hl : as.length = ps.length) (hv : argVals as L1 = some (ds, L1)) (ho : lentOk as L1 = true) (hp : putBack as [] (if d.noSh = true then L1 else fzLent as L1) = some Lz) : den (envN T G N0 m) (.call f [] es) L = .ok (d, Lz) := by
  obtain ⟨fn, h1, h2, h3, h4, h5, h6⟩ := h.ex
  exact calX h1 ha hc h3 (by rw [hl, h4]) hv ho hp
theorem calFio {i : Nat} {es : Es} {as : List Arg} {L L1 Ly Lz : Lcs} {ds : List D} {S d S' : D} (h : FnIs T f ps N [true] body) (hL : L[i]? = some (some S)) (ha : args (envN T G N0 m) [] es L = .ok (as, L1)) (hc : (envN T G N0 m).call f ds = .ok (d, [some S'])) (hl : (Arg.io i :: as).length = ps.length) (hv : argVals (.io i :: as) L1 = some (ds, Ly)) (ho : lentOk (.io i :: as) Ly = true)
    (hp : putBack (.io i :: as) [some S'] (if (d.noSh && S'.noSh) = true then Ly else fzLent (.io i :: as) Ly) = some Lz) : den (envN T G N0 m) (.call f [] (.cons (.p (.var i)) es)) L = .ok (d, Lz) := by
  obtain ⟨fn, h1, h2, h3, h4, h5, h6⟩ := h.ex
  exact cal_io h1 h3 hL ha (by rw [hl, h4]) hv ho hc hp
end

/-! ## loops by place, and with a state -/
theorem forRun_ix {tg : Tg} {body : Lcs → RS} {n : Nat} (dx : Nat → D) (J : Nat → Lcs → Prop) (step : ∀ i, i < n → ∀ L, J i L → ∃ La Lb, tg.set (dx i) L = some La ∧ body La = .nx Lb ∧ J (i + 1) Lb) {L : Lcs} (h0 : J 0 L) :
    ∃ L', forRun tg body ((List.range n).map dx) L = .nx L' ∧ J n L' := by
  have go : ∀ (j i : Nat) (L : Lcs), i + j = n → J i L → ∃ L', forRun tg body ((List.range' i j).map dx) L = .nx L' ∧ J n L' := by
    intro j
    induction j with
    | zero => intro i L e h; exact ⟨L, rfl, by rw [← e]; exact h⟩
    | succ j ih =>
      intro i L e h
      obtain ⟨La, Lb, e1, e2, h2⟩ := step i (by omega) L h
      obtain ⟨L', e3, h3⟩ := ih (i + 1) Lb (by omega) h2
      refine ⟨L', ?_, h3⟩
      rw [List.range'_succ, List.map_cons, forRun_cons, e1]
      simp only [e2, stepR]
      exact e3
  rw [List.range_eq_range']
  exact go n 0 L (by omega) h0
inductive All2 {α β : Type} (R : α → β → Prop) : List α → List β → Prop
  | nil : All2 R [] []
  | cons {x y xs ys} : R x y → All2 R xs ys → All2 R (x :: xs) (y :: ys)
theorem All2.len {α β : Type} {R : α → β → Prop} {xs : List α} {ys : List β} (h : All2 R xs ys) : xs.length = ys.length := by induction h <;> simp_all
theorem All2.right {α β : Type} {R : α → β → Prop} {P : β → Prop} {xs : List α} {ys : List β} (h : All2 R xs ys) (hp : ∀ x y, R x y → P y) : ∀ y ∈ ys, P y := by
  induction h with
  | nil => exact fun _ z => nomatch z
  | cons h _ ih =>
    intro y hy
    rcases List.mem_cons.mp hy with rfl | hy
    · exact hp _ _ h
    · exact ih y hy
theorem All2.map_eq {α β γ : Type} {R : α → β → Prop} {f : α → γ} {g : β → γ} {xs : List α} {ys : List β} (h : All2 R xs ys) (hp : ∀ x y, R x y → f x = g y) : xs.map f = ys.map g := by
  induction h with
  | nil => rfl
  | cons h _ ih => rw [List.map_cons, List.map_cons, ih, hp _ _ h]
/-- a comprehension whose turns change a state -/
theorem lcRun_st {tg : Tg} {vs : List Nat} {cond : Lcs → Res (Bool × Lcs)} {elt : Lcs → Res (D × Lcs)} {α : Type} (dx : α → D) (W : D → Lcs) (J : Nat → D → Prop) (Y : α → D → Prop) (c B : Nat) :
    ∀ (xs : List α) (L : Lcs) (S : D) (n : Nat), (∀ x ∈ xs, ∀ S n, J n S → n + c ≤ B → ∃ S' y La Lb, J (n + c) S' ∧ Y x y ∧ tg.set (dx x) (W S) = some La ∧ cond La = .ok (true, La) ∧ elt La = .ok (y, Lb) ∧ wipeL Lb vs = W S') → wipeL L vs = W S → J n S → n + xs.length * c ≤ B →
      ∃ S' ys Lf, J (n + xs.length * c) S' ∧ All2 Y xs ys ∧ lcRun tg vs cond elt (xs.map dx) L = .ok (ys, Lf) ∧ wipeL Lf vs = W S'
  | [], L, S, n, _, hL, hJ, _ => ⟨S, [], L, by simpa using hJ, .nil, by rw [List.map_nil, lcRun], hL⟩
  | x :: xs, L, S, n, st, hL, hJ, hB => by
    rw [List.length_cons, Nat.succ_mul] at hB
    obtain ⟨S1, y, La, Lb, j1, h1, e1, e2, e3, e4⟩ := st x List.mem_cons_self S n hJ (by omega)
    obtain ⟨S', ys, Lf, j2, h2, r2, w2⟩ := lcRun_st dx W J Y c B xs Lb S1 (n + c) (fun x hx => st x (List.mem_cons_of_mem _ hx)) e4 j1 (by omega)
    refine ⟨S', y :: ys, Lf, ?_, .cons h1 h2, ?_, w2⟩
    · rw [List.length_cons, Nat.succ_mul]
      have : n + c + xs.length * c = n + (xs.length * c + c) := by omega
      rw [← this]; exact j2
    · rw [List.map_cons, lcRun, hL, e1]
      simp only [e2, e3, r2]

/-! ## blocks that may tell their value at once -/
def FR (r : RS) (o : Option D) (I : Lcs → Prop) : Prop := match o with
  | none => ∃ L2, r = .nx L2 ∧ I L2
  | some d => ∃ L2, r = .rt d L2
section
variable {V : EnvQ} {L L1 L2 : Lcs} {I I2 : Lcs → Prop} {s : S} {ss a : Ss} {o o2 : Option D} {d : D} {e c : E}
theorem fr_ss (h : FR (runS V s L) o I) (h2 : o = none → ∀ L2, I L2 → FR (runSs V ss L2) o2 I2) : FR (runSs V (.cons s ss) L) (o.or o2) I2 := by
  cases o with
  | none =>
    obtain ⟨L2, e, h3⟩ := h
    rw [nx_cons e]
    exact h2 rfl L2 h3
  | some d =>
    obtain ⟨L2, e⟩ := h
    exact ⟨L2, rt_cons e⟩
theorem fr_nx (h : runS V s L = .nx L1) (hI : I L1) : FR (runS V s L) none I := ⟨L1, h, hI⟩
theorem fr_rt {r : RS} (h : r = .rt d L1) : FR r (some d) I := ⟨L1, h⟩
theorem fr_nil (h : I L) : FR (runSs V .nil L) none I := ⟨L, runs_nil _ _, h⟩
theorem fr_one (h : FR (runS V s L) o I) : FR (runSs V (.cons s .nil) L) o I := by
  have := fr_ss (ss := .nil) (o2 := none) (I2 := I) h (fun _ L2 h => fr_nil h)
  rwa [Option.or_none] at this
theorem fr_if {k : Bool} {L3 : Lcs} (hc : rdW V c (fun L => den V c L) L = .ok (.bl k, L1)) (ht : k = true → runSs V a L1 = .rt d L3) (hf : k = false → I L1) : FR (runS V (.ifs c a .nil) L) (if k then some d else none) I := by
  have e : runS V (.ifs c a .nil) L = if k then runSs V a L1 else runSs V .nil L1 := by
    rw [run_ifs, hc]; rfl
  rw [e]
  cases k with
  | true => exact ⟨L3, ht rfl⟩
  | false => exact ⟨L1, runs_nil V L1, hf rfl⟩
theorem fr_for {tg : Tg} {sc : Src} {b : Ss} {α : Type} {dx : α → D} {xs : List α} {h : α → Option D} (hs : src V sc L = .ok (xs.map dx, L1)) (hI : I L1) (hb : ∀ x ∈ xs, ∀ L, I L → ∃ L1, tg.set (dx x) L = some L1 ∧ FR (runSs V b L1) (h x) I) : FR (runS V (.for_ tg sc b) L) (xs.findSome? h) I := by
  have e : runS V (.for_ tg sc b) L = forRun tg (fun L => runSs V b L) (xs.map dx) L1 := by rw [run_for, hs]; rfl
  rw [e]
  clear e hs
  induction xs generalizing L1 with
  | nil => exact ⟨L1, rfl, hI⟩
  | cons x xs ih =>
    obtain ⟨La, e1, e2⟩ := hb x List.mem_cons_self L1 hI
    rw [List.map_cons, forRun_cons, e1, List.findSome?_cons]
    cases hx : h x with
    | none =>
      rw [hx] at e2
      obtain ⟨Lb, e3, e4⟩ := e2
      simp only [e3, stepR]
      exact ih e4 fun y hy => hb y (List.mem_cons_of_mem _ hy)
    | some d =>
      rw [hx] at e2
      obtain ⟨Lb, e3⟩ := e2
      simp only [e3, stepR]
      exact ⟨Lb, rfl⟩
/-! tests -/
theorem x_orG {e1 e2 : E} {k1 k2 : Bool} (h : rdW V e1 (fun L => den V e1 L) L = .ok (.bl k1, L)) (h2 : k1 = false → rdW V e2 (fun L => den V e2 L) L = .ok (.bl k2, L)) : rdW V (.or e1 e2) (fun L => den V (.or e1 e2) L) L = .ok (.bl (k1 || k2), L) := by
  refine rdE (h := ?_)
  rw [den_or, h]
  cases k1 with
  | true => rfl
  | false =>
    show ((rdW V e2 (fun L => den V e2 L) L).bind _) = _
    rw [h2 rfl]; rfl
theorem x_andG {e1 e2 : E} {k1 k2 : Bool} (h : rdW V e1 (fun L => den V e1 L) L = .ok (.bl k1, L)) (h2 : k1 = true → rdW V e2 (fun L => den V e2 L) L = .ok (.bl k2, L)) : den V (.and e1 e2) L = .ok (.bl (k1 && k2), L) := by
  rw [den_and, h]
  cases k1 with
  | false => rfl
  | true =>
    show ((rdW V e2 (fun L => den V e2 L) L).bind _) = _
    rw [h2 rfl]; rfl
theorem x_ifT {c e1 e2 : E} {x : Res (D × Lcs)} (h : rdW V c (fun L => den V c L) L = .ok (.bl true, L1)) (h2 : den V e1 L1 = x) : den V (.ife c e1 e2) L = x := x_ife h h2
theorem x_ifF {c e1 e2 : E} {x : Res (D × Lcs)} (h : rdW V c (fun L => den V c L) L = .ok (.bl false, L1)) (h2 : den V e2 L1 = x) : den V (.ife c e1 e2) L = x := x_ife h h2
theorem p_and {p q : P} {k1 k2 : Bool} (h : pur V.G p L = some (.bl k1)) (h2 : k1 = true → pur V.G q L = some (.bl k2)) : pur V.G (.and p q) L = some (.bl (k1 && k2)) := by
  simp only [pur, h]
  cases k1 with
  | false => rfl
  | true => exact h2 rfl
theorem p_or {p q : P} {k1 k2 : Bool} (h : pur V.G p L = some (.bl k1)) (h2 : k1 = false → pur V.G q L = some (.bl k2)) : pur V.G (.or p q) L = some (.bl (k1 || k2)) := by
  simp only [pur, h]
  cases k1 with
  | true => rfl
  | false => exact h2 rfl
theorem p_not {p : P} {k : Bool} (h : pur V.G p L = some (.bl k)) : pur V.G (.o1 .not p) L = some (.bl (!k)) := (pur1 h).trans rfl
theorem p_isL {i : Nat} (h : L[i]? = some (some d)) : pur V.G (.o1 (.isi ["list", "tuple"]) (.var i)) L = some (.bl d.els.isSome) := by
  refine (pur1 (d := d) (by simp only [pur, h])).trans ?_
  show some (D.bl (["list", "tuple"].any d.isT)) = _
  rw [els_isi]
theorem p_len {p : P} {ds : List D} (h : pur V.G p L = some d) (he : d.els = some ds) : pur V.G (.o1 .len p) L = some (nD ds.length) := (pur1 h).trans (els_len he)
theorem p_ix {p q : P} {ds : List D} {i : Nat} {x : D} (h : pur V.G p L = some d) (he : d.els = some ds) (hq : pur V.G q L = some (nD i)) (hx : ds[i]? = some x) : pur V.G (.o2 .ix p q) L = some x := (pur2 h hq).trans (els_ix he (at_nat hx))
theorem p_var {i : Nat} (h : L[i]? = some (some d)) : pur V.G (.var i) L = some d := by simp only [pur, h]
/-- a pure comprehension that keeps all -/
theorem lc_all {vs : List Nat} {tg : Tg} {sc : Src} {e : E} {α : Type} {L1 : Lcs} (dx : α → D) (f : α → D) (xs : List α) (hs : src V sc L = .ok (xs.map dx, L1)) (h : ∀ x ∈ xs, ∃ L2, tg.set (dx x) (wipeL L1 vs) = some L2 ∧ wipeL L2 vs = wipeL L1 vs ∧ den V e L2 = .ok (f x, L2)) (hr : resetTo L1 (wipeL L1 vs) vs = L1) :
    den V (.lc vs tg sc .nil e) L = .ok (.lst true (xs.map f), L1) := by
  refine (lc_pure1 dx (fun _ => true) f xs hs fun x hx => ?_).trans ?_
  · obtain ⟨L2, a, b, c⟩ := h x hx
    exact ⟨L2, a, b, conds_nil _ _, fun _ => c⟩
  · rw [hr, List.filter_eq_self.mpr fun _ _ => rfl]
theorem src_Ar {i k : Nat} {ds : List D} (h : L[i]? = some (some d)) (a : Ar k d) (he : d.els = some ds) : src V (.e (.p (.var i))) L = .ok (ds.map id, L) := by
  rw [List.map_id]
  exact src_var h a.no (by rw [a.fz]; exact he)
end
end Q

namespace Q
open PySem L2 PySem.Spec
/-! ## what all laws draw with -/
def nDraw : Str := Str.ofString "_law_draw"
def nPick : Str := Str.ofString "_law_pick"
def nCop : Str := Str.ofString "_law_copied"
def nLoo : Str := Str.ofString "_law_loose"
def pickBody : Ss :=
 (.cons (.ret (.o2 .ix (.p (.var 1)) (.call nDraw [] (.cons (.p (.var 0)) (.cons (.p (.o1 .len (.var 1))) .nil)))))
 .nil)
def copBody : Ss :=
 (.cons (.ifs (.p (.o1 (.isi ["dict"]) (.var 0)))
 (.cons (.ret (.dce 0 [3]))
 .nil)
 .nil)
 (.cons (.asg (.nm 1) (.ife (.p (.o1 (.isi ["list", "tuple"]) (.var 0))) (.lc [2] (.nm 2) (.e (.p (.var 0))) .nil (.call nCop [] (.cons (.p (.var 2)) .nil))) (.p (.var 0))))
 (.cons (.ret (.ife (.p (.o1 (.isi ["tuple"]) (.var 0))) (.sq .tuple (.mv 1)) (.mv 1)))
 .nil)))
def looBody : Ss :=
 (.cons (.ifs (.p (.o1 .not (.o1 (.isi ["list", "tuple"]) (.var 1))))
 (.cons (.ret (.mv 1))
 .nil)
 .nil)
 (.cons (.asg (.nm 2) (.lc [3] (.nm 3) (.e (.p (.var 1))) .nil (.call nLoo [] (.cons (.p (.var 0)) (.cons (.p (.var 3)) .nil)))))
 (.cons (.ret (.ife (.o2 .eq (.call nDraw [] (.cons (.p (.var 0)) (.cons (.p (.int 2)) .nil))) (.p (.int 0))) (.sq .tuple (.mv 2)) (.mv 2)))
 .nil)))
abbrev DrawIs (T : Tab) : Prop := FnIs T nDraw [Str.ofString "stream", Str.ofString "many"] 5 [true] drawBody
abbrev PickIs (T : Tab) : Prop := FnIs T nPick [Str.ofString "stream", Str.ofString "things"] 2 [true] pickBody
abbrev CopIs (T : Tab) : Prop := FnIs T nCop [Str.ofString "thing"] 4 [] copBody
abbrev LooIs (T : Tab) : Prop := FnIs T nLoo [Str.ofString "stream", Str.ofString "thing"] 4 [true] looBody
structure StOk (S : D) (n : Nat) : Prop where
  ex : ∃ (ns : List Int) (a b c : Int), S = strD ns a b c ∧ ns.length ≤ 63 ∧ 0 ≤ a ∧ (0 ≤ b ∧ b ≤ n) ∧ (0 ≤ c ∧ c < 2147483647)
theorem StOk.up {S : D} {n n' : Nat} (h : StOk S n) (hn : n ≤ n') : StOk S n' := by
  obtain ⟨ns, a, b, c, h0, h1, h2, h3, h4⟩ := h.ex
  exact ⟨⟨ns, a, b, c, h0, h1, h2, ⟨h3.1, by omega⟩, h4⟩⟩
theorem StOk.sh {S : D} {n : Nat} (h : StOk S n) : S.noSh = true := by
  obtain ⟨ns, a, b, c, rfl, _⟩ := h.ex
  simp only [strD, D.noSh, D.noShs, noShs_map (f := D.int) fun _ => rfl, Bool.and_self]
section
variable {T : Tab} {G : Str → Option D} {N0 m : Nat} {S : D} {n M : Nat}
theorem draw_ok (h : DrawIs T) (hN : 100 < N0) (s : StOk S n) (hn : n < 900000000000) (hM : 0 < M ∧ M < 1000000) : ∃ S' j, StOk S' (n + 1) ∧ j < M ∧ (envN T G N0 (m + 1)).call nDraw [S, nD M] = .ok (nD j, [some S']) := by
  obtain ⟨ns, a, b, c, rfl, h1, h2, h3, h4⟩ := s.ex
  obtain ⟨ns', a', c', L', k, g1, g2, g3, g4, e⟩ := draw_run (V := envN T G N0 m) (ns := ns) (a := a) (b := b) (c := c) (m := (M : Int)) (by
    have : (envN T G N0 m).N = N0 := by cases m <;> rfl
    omega) h2 (by omega) h4 (by omega)
  refine ⟨strD ns' a' (b + 1) c', k.toNat, ⟨⟨ns', a', b + 1, c', rfl, by omega, g2, by omega, g3⟩⟩, by omega, ?_⟩
  have hk : nD k.toNat = .int k := by show D.int ((k.toNat : Nat) : Int) = _; rw [Int.toNat_of_nonneg g4.1]
  rw [hk, h.call]
  exact ret1 e
/-- a draw, written -/
theorem x_drw (h : DrawIs T) (hN : 100 < N0) (s : StOk S n) (hn : n < 900000000000) (hM : 0 < M ∧ M < 1000000) {L : Lcs} {i : Nat} {e : E} (hL : L[i]? = some (some S)) (he : den (envN T G N0 (m + 1)) e L = .ok (nD M, L)) (hv : notVar e = true := by rfl) :
    ∃ S' j, StOk S' (n + 1) ∧ j < M ∧ den (envN T G N0 (m + 1)) (.call nDraw [] (.cons (.p (.var i)) (.cons e .nil))) L = .ok (nD j, L.set i (some S')) := by
  obtain ⟨S', j, t, hj, c⟩ := draw_ok (G := G) (m := m) h hN s hn hM
  have hi : i < L.length := by
    have := (List.getElem?_eq_some_iff.mp hL).1
    exact this
  refine ⟨S', j, t, hj, calFio h hL (a_val he a_end hv) c rfl (Ly := L.set i none) (avI hL (avV rfl avE)) rfl ?_⟩
  split <;> (simp only [putBack, List.set_set, fzLent])
/-- a draw below a variable's number -/
theorem x_drv (h : DrawIs T) (hN : 100 < N0) (s : StOk S n) (hn : n < 900000000000) (hM : 0 < M ∧ M < 1000000) {L : Lcs} {i j0 : Nat} (hij : i ≠ j0) (hL : L[i]? = some (some S)) (he : L[j0]? = some (some (nD M))) :
    ∃ S' j, StOk S' (n + 1) ∧ j < M ∧ den (envN T G N0 (m + 1)) (.call nDraw [] (.cons (.p (.var i)) (.cons (.p (.var j0)) .nil))) L = .ok (nD j, L.set i (some S')) := by
  obtain ⟨S', j, t, hj, c⟩ := draw_ok (G := G) (m := m) h hN s hn hM
  have he2 : (L.set i none)[j0]? = some (some (nD M)) := by rw [List.getElem?_set_ne hij]; exact he
  refine ⟨S', j, t, hj, calFio h hL (a_bor he a_end) c rfl (Ly := L.set i none) (avI hL (avB he2 rfl avE)) ?_ ?_⟩
  · simp only [lentOk, List.all_cons, List.all_nil, he2, Bool.and_self]
  · have hz : fzLent [.io i, .bor j0] (L.set i none) = L.set i none := fzI (fz1 he2 rfl fz0)
    rw [hz]
    split <;> (simp only [putBack, List.set_set])
theorem pick_ok (hp : PickIs T) (h : DrawIs T) (hN : 100 < N0) (s : StOk S n) (hn : n < 900000000000) {ds : List D} (hd : (D.lst false ds).noOwn = true) (hl : 0 < ds.length ∧ ds.length < 1000) :
    ∃ S' x, StOk S' (n + 1) ∧ x ∈ ds ∧ (envN T G N0 (m + 2)).call nPick [S, .lst false ds] = .ok (x, [some S']) := by
  obtain ⟨S', j, t, hj, c⟩ := x_drw (G := G) (m := m) h hN s hn (M := ds.length) (by omega) (L := [some S, some (.lst false ds)]) (i := 0) (e := .p (.o1 .len (.var 1))) rfl (keepD rfl rfl)
  refine ⟨S', ds[j], t, List.getElem_mem hj, ?_⟩
  rw [hp.call]
  refine ret1 (L := [some (.lst false ds)]) (rt_cons (retE ?_))
  exact x_o2 (keepD rfl hd) (rdE (h := c)) (els_ix rfl (at_nat (by simp [hj])))
/-- the same anew -/
theorem copied_ok (h : CopIs T) : ∀ (k m : Nat) {d : D}, k + 1 ≤ m → Ar k d → (envN T G N0 m).call nCop [d] = .ok (d.ow, []) := by
  intro k
  induction k with
  | zero =>
    intro m d hm a
    obtain ⟨j, rfl⟩ : ∃ j, m = j + 1 := ⟨m - 1, by omega⟩
    rw [h.call]
    rcases a.case with ⟨ds, j, _, e, _⟩ | ⟨e1, e2⟩
    · cases e
    · rcases e2 with e2 | rfl
      · cases d <;> simp only [flatD, Bool.false_eq_true] at e2 <;> exact ret0 (L := [some _, none, none, none]) (q_if0 (rdP rfl) (q_asg (x_ifF (rdP rfl) (keepD rfl rfl)) (q_ret (x_ifF (rdP rfl) (x_mv rfl)))))
      · exact ret0 (L := [some _, none, none, none]) (q_ifR (rdP (d := .bl true) rfl) (q_ret (by rw [den_dce]; rfl)))
  | succ k ih =>
    intro m d hm a
    obtain ⟨j, rfl⟩ : ∃ j, m = j + 1 := ⟨m - 1, by omega⟩
    rw [h.call]
    rcases a.case with ⟨ds, j', e1, e2, e3, e4, e5⟩ | ⟨e1, e2⟩
    · cases e2
      have hlc : den (envN T G N0 j) (.lc [2] (.nm 2) (.e (.p (.var 0))) .nil (.call nCop [] (.cons (.p (.var 2)) .nil))) [some d, none, none, none] = .ok (.lst true (ds.map D.ow), [some d, none, none, none]) := by
        refine lc_all id D.ow ds (src_Ar rfl a e1) (fun x hx => ⟨[some d, none, some x, none], rfl, rfl, ?_⟩) rfl
        refine calF h (a_bor rfl a_end) (ih j (by omega) (e4 x hx)) rfl (av1 rfl (e4 x hx).fz) rfl ?_
        rw [ow_noSh x]; rfl
      rcases e5 with rfl | rfl
      · have : (D.tup ds).ow = .tup (ds.map D.ow) := by rw [D.ow, ows_eq]
        rw [this]
        exact ret0 (q_if0 (rdP rfl) (q_asg (x_ifT (rdP rfl) hlc) (q_ret (x_ifT (rdP rfl) (x_sqTupE rfl (x_mv rfl) rfl)))))
      · have : (D.lst false ds).ow = .lst true (ds.map D.ow) := by rw [D.ow, ows_eq]
        rw [this]
        exact ret0 (q_if0 (rdP rfl) (q_asg (x_ifT (rdP rfl) hlc) (q_ret (x_ifF (rdP rfl) (x_mv rfl)))))
    · rcases e2 with e2 | rfl
      · cases d <;> simp only [flatD, Bool.false_eq_true] at e2 <;> exact ret0 (L := [some _, none, none, none]) (q_if0 (rdP rfl) (q_asg (x_ifF (rdP rfl) (keepD rfl rfl)) (q_ret (x_ifF (rdP rfl) (x_mv rfl)))))
      · exact ret0 (L := [some _, none, none, none]) (q_ifR (rdP (d := .bl true) rfl) (q_ret (by rw [den_dce]; rfl)))
def lcost : Nat → Nat
  | 0 => 0
  | k + 1 => 20 * lcost k + 1
/-- lists for tuples, and the other way about, as drawn -/
theorem loose_ok (hl : LooIs T) (hd : DrawIs T) (hN : 100 < N0) : ∀ (k m : Nat) {d : D} {S : D} {n : Nat}, k + 2 ≤ m → Ar k d → StOk S n → n + lcost k < 900000000000 →
    ∃ S' d', StOk S' (n + lcost k) ∧ d'.nm = d.nm ∧ small k d' = true ∧ (d.els = none → d' = d) ∧ (envN T G N0 m).call nLoo [S, d] = .ok (d', [some S']) := by
  intro k
  induction k with
  | zero =>
    intro m d S n hm a s hn
    obtain ⟨j, rfl⟩ : ∃ j, m = j + 1 := ⟨m - 1, by omega⟩
    rcases a.case with ⟨ds, j, _, e, _⟩ | ⟨e1, e2⟩
    · cases e
    · refine ⟨S, d, s, rfl, a.sm, fun _ => rfl, ?_⟩
      rw [hl.call]
      refine ret1 (L := [none, none, none]) (q_ifR (L1 := [some S, some d, none, none]) (rdP (by rw [p_not (p_isL (d := d) rfl), e1]; rfl)) (q_ret (x_mv rfl)))
  | succ k ih =>
    intro m d S n hm a s hn
    obtain ⟨j, rfl⟩ : ∃ j, m = j + 1 := ⟨m - 1, by omega⟩
    obtain ⟨i, rfl⟩ : ∃ i, j = i + 1 := ⟨j - 1, by omega⟩
    rcases a.case with ⟨ds, j', e1, e2, e3, e4, e5⟩ | ⟨e1, e2⟩
    · cases e2
      have hc : lcost (k + 1) = 20 * lcost k + 1 := rfl
      have hle : ds.length * lcost k ≤ 20 * lcost k := Nat.mul_le_mul_right _ e3
      obtain ⟨S1, ys, Lf, j1, y1, r1, w1⟩ := lcRun_st (tg := .nm 3) (vs := [3]) (cond := fun L => conds (envN T G N0 (i + 1)) .nil L) (elt := fun L => den (envN T G N0 (i + 1)) (.call nLoo [] (.cons (.p (.var 0)) (.cons (.p (.var 3)) .nil))) L) (fun x : D => x) (fun S => [some S, some d, none, none]) (fun n S => StOk S n) (fun x y => y.nm = x.nm ∧ small k y = true) (lcost k) (n + 20 * lcost k) ds [some S, some d, none, none] S n (fun x hx S n s hB => by
        obtain ⟨S', y, s', h1, h2, _, h3⟩ := ih (i + 1) (by omega) (e4 x hx) s (by omega)
        refine ⟨S', y, [some S, some d, none, some x], [some S', some d, none, some x], s', ⟨h1, h2⟩, rfl, conds_nil _ _, ?_, rfl⟩
        refine calFio hl (i := 0) rfl (a_bor rfl a_end) h3 rfl (Ly := [none, some d, none, some x]) (avI rfl (avB rfl (e4 x hx).fz avE)) rfl ?_
        have hz : fzLent [.io 0, .bor 3] [none, some d, none, some x] = [none, some d, none, some x] := fzI (fz1 rfl (e4 x hx).fz fz0)
        rw [hz]
        split <;> rfl) rfl s (by omega)
      rw [List.map_id'] at r1
      have hlc : den (envN T G N0 (i + 1)) (.lc [3] (.nm 3) (.e (.p (.var 1))) .nil (.call nLoo [] (.cons (.p (.var 0)) (.cons (.p (.var 3)) .nil)))) [some S, some d, none, none] = .ok (.lst true ys, [some S1, some d, none, none]) := by
        rw [den_lc, src_var (d := d) (ds := ds) rfl a.no (by rw [a.fz]; exact e1)]
        simp only [Res.bind]
        rw [r1]
        simp only [w1]
        rfl
      obtain ⟨S2, x, s2, hx, c2⟩ := x_drw (G := G) (m := i) hd hN j1 (by omega) (M := 2) (by omega) (L := [some S1, some d, some (.lst true ys), none]) (i := 0) (e := .p (.int 2)) rfl (keepD rfl rfl)
      have hn1 : D.nms ys = D.nms ds := by rw [nms_eq, nms_eq]; exact (y1.map_eq fun x y h => h.1.symm).symm
      have hs1 : small (k + 1) (.tup ys) = true ∧ small (k + 1) (.lst true ys) = true := by
        have q : (decide (ys.length ≤ 20) && ys.all (small k)) = true := by
          rw [Bool.and_eq_true, decide_eq_true_eq, List.all_eq_true]
          exact ⟨by rw [← y1.len]; exact e3, y1.right fun x y h => h.2⟩
        exact ⟨q, q⟩
      have hdn : d.nm = .tup (D.nms ds) := by rcases e5 with rfl | rfl <;> rfl
      have eq : ap2 .eq (nD x) (.int 0) = some (.bl (decide ((x : Int) = 0))) := rfl
      refine ⟨S2, if decide ((x : Int) = 0) then .tup ys else .lst true ys, s2.up (by omega), ?_, ?_, fun z => (by rw [e1] at z; cases z), ?_⟩
      · rw [hdn, ← hn1]; split <;> rfl
      · split
        · exact hs1.1
        · exact hs1.2
      · rw [hl.call]
        refine ret1 (L := [some d, none, none]) (q_if0 (L1 := [some S, some d, none, none]) (rdP (by rw [p_not (p_isL (d := d) rfl), e1]; rfl)) (q_asg hlc (q_ret (x_ife (k := decide ((x : Int) = 0)) (rdE (h := x_o2 c2 (rdP rfl) eq)) ?_))))
        by_cases hx0 : decide ((x : Int) = 0) = true
        · rw [if_pos hx0, if_pos hx0]; exact x_sqTupE rfl (x_mv rfl) rfl
        · rw [if_neg hx0, if_neg hx0]; exact x_mv rfl
    · refine ⟨S, d, s.up (by omega), rfl, a.sm, fun _ => rfl, ?_⟩
      rw [hl.call]
      refine ret1 (L := [none, none, none]) (q_ifR (L1 := [some S, some d, none, none]) (rdP (by rw [p_not (p_isL (d := d) rfl), e1]; rfl)) (q_ret (x_mv rfl)))
end
end Q

namespace Q
open PySem L2 PySem.Spec
/-! ## stores -/
def oD : Option Nat → D
  | none => .non
  | some n => nD n
def numB : D → Bool
  | .int i => decide (0 ≤ i)
  | _ => false
def tollB : D → Bool
  | .non => true
  | d => numB d
def numN : D → Nat
  | .int i => i.toNat
  | _ => 0
def tollN : D → Option Nat
  | .int i => some i.toNat
  | _ => none
def badR (n : Nat) (r : D) : Bool := match r.els with
  | none => true
  | some es => !(decide (es.length = n) && es.all numB)
def badA (n : Nat) (r : D) : Bool := match r.els with
  | none => true
  | some es => !(decide (es.length = n) && es.all tollB)
def rowN (r : D) : List Nat := match r.els with
  | none => []
  | some es => es.map numN
def askN (r : D) : List (Option Nat) := match r.els with
  | none => []
  | some es => es.map tollN
abbrev Frm := List (List Nat) × List (List (Option Nat))
def form2 (ws as : List D) : Option Frm := if (ws.isEmpty || as.isEmpty) = true then none else if ws.any (badR ws.length) = true then none else if as.any (badA ws.length) = true then none else some (ws.map rowN, as.map askN)
def form1 (w a : D) : Option Frm := match w.els, a.els with
  | some ws, some as => form2 ws as
  | _, _ => none
/-- a thing as distances and asks -/
def formO (d : D) : Option Frm := match d.els with
  | some [w, a] => form1 w a
  | _ => none
theorem els_nm (d : D) : d.nm.els = d.els.map (·.map D.nm) := by
  cases d <;> simp [D.nm, D.els, nms_eq]
theorem numB_nm (d : D) : numB d.nm = numB d := by cases d <;> rfl
theorem tollB_nm (d : D) : tollB d.nm = tollB d := by cases d <;> rfl
theorem numN_nm (d : D) : numN d.nm = numN d := by cases d <;> rfl
theorem tollN_nm (d : D) : tollN d.nm = tollN d := by cases d <;> rfl
theorem badR_nm (n : Nat) (d : D) : badR n d.nm = badR n d := by
  unfold badR
  rw [els_nm]
  cases d.els with
  | none => rfl
  | some es =>
    show (!(decide ((es.map D.nm).length = n) && (es.map D.nm).all numB)) = _
    rw [List.length_map, List.all_map]
    congr 2
    exact congrArg (fun f => es.all f) (funext fun x => numB_nm x)
theorem badA_nm (n : Nat) (d : D) : badA n d.nm = badA n d := by
  unfold badA
  rw [els_nm]
  cases d.els with
  | none => rfl
  | some es =>
    show (!(decide ((es.map D.nm).length = n) && (es.map D.nm).all tollB)) = _
    rw [List.length_map, List.all_map]
    congr 2
    exact congrArg (fun f => es.all f) (funext fun x => tollB_nm x)
theorem rowN_nm (d : D) : rowN d.nm = rowN d := by
  unfold rowN
  rw [els_nm]
  cases d.els with
  | none => rfl
  | some es =>
    show (es.map D.nm).map numN = _
    rw [List.map_map]
    exact List.map_congr_left fun x _ => numN_nm x
theorem askN_nm (d : D) : askN d.nm = askN d := by
  unfold askN
  rw [els_nm]
  cases d.els with
  | none => rfl
  | some es =>
    show (es.map D.nm).map tollN = _
    rw [List.map_map]
    exact List.map_congr_left fun x _ => tollN_nm x
theorem form2_nm (ws as : List D) : form2 (ws.map D.nm) (as.map D.nm) = form2 ws as := by
  unfold form2
  have e1 : (ws.map D.nm).any (badR ws.length) = ws.any (badR ws.length) := by
    rw [List.any_map]; exact congrArg (fun f => ws.any f) (funext fun x => badR_nm _ x)
  have e2 : (as.map D.nm).any (badA ws.length) = as.any (badA ws.length) := by
    rw [List.any_map]; exact congrArg (fun f => as.any f) (funext fun x => badA_nm _ x)
  have e3 : (ws.map D.nm).map rowN = ws.map rowN := by rw [List.map_map]; exact List.map_congr_left fun x _ => rowN_nm x
  have e4 : (as.map D.nm).map askN = as.map askN := by rw [List.map_map]; exact List.map_congr_left fun x _ => askN_nm x
  rw [List.length_map, e1, e2, e3, e4, List.isEmpty_map, List.isEmpty_map]
theorem formO_nm (d : D) : formO d.nm = formO d := by
  unfold formO
  rw [els_nm]
  cases d.els with
  | none => rfl
  | some ds =>
    match ds with
    | [] => rfl
    | [_] => rfl
    | [w, a] =>
      show form1 w.nm a.nm = form1 w a
      unfold form1
      rw [els_nm, els_nm]
      cases w.els with
      | none => rfl
      | some ws =>
        cases a.els with
        | none => rfl
        | some as => exact form2_nm ws as
    | _ :: _ :: _ :: _ => rfl
theorem formO_of {d e : D} (h : d.nm = e.nm) : formO d = formO e := by rw [← formO_nm d, h, formO_nm]
theorem getD_atN {xs : List Nat} {i : Nat} (h : i < xs.length) : xs[i]? = some (xs.getD i 0) := by simp [h]
def g2 (W : List (List Nat)) (i j : Nat) : Nat := (W.getD i []).getD j 0
def sForm : D := .tup [.str (Str.ofString "form")]
def fa1 (W : List (List Nat)) : Option D := (List.range W.length).findSome? fun i => (List.range W.length).findSome? fun j => if (decide (g2 W i j = 0) != decide (i = j)) = true then some (.tup [.str (Str.ofString "nought"), nD i, nD j]) else none
def fa2 (W : List (List Nat)) : Option D := (List.range W.length).findSome? fun i => (List.range W.length).findSome? fun b => (List.range W.length).findSome? fun j => if Nat.blt (g2 W i b + g2 W b j) (g2 W i j) = true then some (.tup [.str (Str.ofString "way"), nD i, nD b, nD j]) else none
def fa3 (A : List (List (Option Nat))) : Option D := (List.range A.length).findSome? fun i => if (A.getD i []).all Option.isNone = true then some (.tup [.str (Str.ofString "ask"), nD i]) else none
/-- what is wrong first with distances and asks -/
def faultO (W : List (List Nat)) (A : List (List (Option Nat))) : Option D := (fa1 W).or ((fa2 W).or (fa3 A))
def faultD (W : List (List Nat)) (A : List (List (Option Nat))) : D := (faultO W A).getD .non
/-- what is wrong first with any object as a store -/
def sfD (d : D) : D := match formO d with
  | none => sForm
  | some (W, A) => faultD W A
def isStB (d : D) : Bool := match formO d with
  | none => false
  | some (W, A) => (faultO W A).isNone
/-- D's of rows -/
structure Rows (ws : List D) (W : List (List Nat)) : Prop where
  el : ws.map D.els = W.map fun xs => some (xs.map nD)
structure Asks (as : List D) (A : List (List (Option Nat))) : Prop where
  el : as.map D.els = A.map fun xs => some (xs.map oD)
theorem Rows.len {ws : List D} {W : List (List Nat)} (h : Rows ws W) : ws.length = W.length := by have := congrArg List.length h.el; simpa using this
theorem Asks.len {ws : List D} {W : List (List (Option Nat))} (h : Asks ws W) : ws.length = W.length := by have := congrArg List.length h.el; simpa using this
theorem Rows.get {ws : List D} {W : List (List Nat)} (h : Rows ws W) {i : Nat} (hi : i < W.length) : ∃ r, ws[i]? = some r ∧ r.els = some ((W.getD i []).map nD) := by
  have hl := h.len
  have := congrArg (fun l => l[i]?) h.el
  simp only [List.getElem?_map] at this
  have h1 : ws[i]? = some (ws[i]'(by omega)) := by simp [show i < ws.length by omega]
  refine ⟨_, h1, ?_⟩
  rw [h1] at this
  have h2 : W[i]? = some (W.getD i []) := by simp [hi]
  rw [h2] at this
  simpa using this
theorem Asks.get {ws : List D} {W : List (List (Option Nat))} (h : Asks ws W) {i : Nat} (hi : i < W.length) : ∃ r, ws[i]? = some r ∧ r.els = some ((W.getD i []).map oD) := by
  have hl := h.len
  have := congrArg (fun l => l[i]?) h.el
  simp only [List.getElem?_map] at this
  have h1 : ws[i]? = some (ws[i]'(by omega)) := by simp [show i < ws.length by omega]
  refine ⟨_, h1, ?_⟩
  rw [h1] at this
  have h2 : W[i]? = some (W.getD i []) := by simp [hi]
  rw [h2] at this
  simpa using this
theorem num_back {es : List D} (h : es.all numB = true) : es = (es.map numN).map nD := by
  rw [List.map_map]
  refine ((List.map_id es).symm.trans (List.map_congr_left fun x hx => ?_))
  have := List.all_eq_true.mp h x hx
  cases x <;> simp only [numB, Bool.false_eq_true, decide_eq_true_eq] at this
  rename_i i
  show D.int i = D.int ((i.toNat : Nat) : Int)
  rw [Int.toNat_of_nonneg this]
theorem toll_back {es : List D} (h : es.all tollB = true) : es = (es.map tollN).map oD := by
  rw [List.map_map]
  refine ((List.map_id es).symm.trans (List.map_congr_left fun x hx => ?_))
  have := List.all_eq_true.mp h x hx
  cases x <;> simp only [tollB, numB, Bool.false_eq_true, decide_eq_true_eq] at this
  · rfl
  · rename_i i
    show D.int i = D.int ((i.toNat : Nat) : Int)
    rw [Int.toNat_of_nonneg this]
theorem badR_f {n : Nat} {r : D} (h : badR n r = false) : ∃ es, r.els = some es ∧ es.length = n ∧ es.all numB = true ∧ es = (rowN r).map nD ∧ (rowN r).length = n := by
  unfold badR at h
  split at h
  · cases h
  · rename_i es he
    simp only [Bool.not_eq_false', Bool.and_eq_true, decide_eq_true_eq] at h
    have e : rowN r = es.map numN := by unfold rowN; rw [he]
    exact ⟨es, he, h.1, h.2, by rw [e]; exact num_back h.2, by rw [e, List.length_map]; exact h.1⟩
theorem badA_f {n : Nat} {r : D} (h : badA n r = false) : ∃ es, r.els = some es ∧ es.length = n ∧ es.all tollB = true ∧ es = (askN r).map oD ∧ (askN r).length = n := by
  unfold badA at h
  split at h
  · cases h
  · rename_i es he
    simp only [Bool.not_eq_false', Bool.and_eq_true, decide_eq_true_eq] at h
    have e : askN r = es.map tollN := by unfold askN; rw [he]
    exact ⟨es, he, h.1, h.2, by rw [e]; exact toll_back h.2, by rw [e, List.length_map]; exact h.1⟩
theorem rows_of {ws : List D} {n : Nat} (h : ws.any (badR n) = false) : Rows ws (ws.map rowN) := by
  refine ⟨?_⟩
  rw [List.map_map]
  refine List.map_congr_left fun r hr => ?_
  obtain ⟨es, h1, _, _, h4, _⟩ := badR_f (n := n) (by simpa using List.any_eq_false.mp h r hr)
  rw [h1, Function.comp, ← h4]
theorem asks_of {ws : List D} {n : Nat} (h : ws.any (badA n) = false) : Asks ws (ws.map askN) := by
  refine ⟨?_⟩
  rw [List.map_map]
  refine List.map_congr_left fun r hr => ?_
  obtain ⟨es, h1, _, _, h4, _⟩ := badA_f (n := n) (by simpa using List.any_eq_false.mp h r hr)
  rw [h1, Function.comp, ← h4]
theorem rows_dim {ws : List D} {n : Nat} (h : ws.any (badR n) = false) : ∀ r ∈ ws.map rowN, r.length = n := by
  intro r hr
  obtain ⟨x, hx, rfl⟩ := List.mem_map.mp hr
  obtain ⟨es, _, _, _, _, h5⟩ := badR_f (n := n) (by simpa using List.any_eq_false.mp h x hx)
  exact h5
theorem asks_dim {ws : List D} {n : Nat} (h : ws.any (badA n) = false) : ∀ r ∈ ws.map askN, r.length = n := by
  intro r hr
  obtain ⟨x, hx, rfl⟩ := List.mem_map.mp hr
  obtain ⟨es, _, _, _, _, h5⟩ := badA_f (n := n) (by simpa using List.any_eq_false.mp h x hx)
  exact h5
/-- what formO tells -/
structure FormIs (d : D) (W : List (List Nat)) (A : List (List (Option Nat))) (w a : D) (ws as : List D) : Prop where
  e : d.els = some [w, a]
  we : w.els = some ws
  ae : a.els = some as
  wp : 0 < W.length
  ap : 0 < A.length
  rw : Rows ws W
  ra : Asks as A
  dw : ∀ r ∈ W, r.length = W.length
  da : ∀ r ∈ A, r.length = W.length
  gw : ws.any (badR ws.length) = false
  ga : as.any (badA ws.length) = false
  eW : W = ws.map rowN
  eA : A = as.map askN
theorem form_inv {d : D} {W : List (List Nat)} {A : List (List (Option Nat))} (h : formO d = some (W, A)) : ∃ w a ws as, FormIs d W A w a ws as := by
  unfold formO at h
  split at h
  · rename_i w a he
    unfold form1 at h
    split at h
    · rename_i ws as hw ha
      unfold form2 at h
      split at h
      · cases h
      · rename_i h0
        split at h
        · cases h
        · rename_i h1
          split at h
          · cases h
          · rename_i h2
            cases h
            simp only [Bool.or_eq_true, List.isEmpty_iff, not_or] at h0
            have h1 : ws.any (badR ws.length) = false := by simpa using h1
            have h2 : as.any (badA ws.length) = false := by simpa using h2
            refine ⟨w, a, ws, as, ⟨he, hw, ha, ?_, ?_, rows_of h1, asks_of h2, ?_, ?_, h1, h2, rfl, rfl⟩⟩
            · rw [List.length_map]; exact List.length_pos_iff.mpr h0.1
            · rw [List.length_map]; exact List.length_pos_iff.mpr h0.2
            · rw [List.length_map]; exact rows_dim h1
            · rw [List.length_map]; exact asks_dim h2
    · cases h
  · cases h
theorem getD_len {W : List (List Nat)} {n i : Nat} (h : ∀ r ∈ W, r.length = n) (hi : i < W.length) : (W.getD i []).length = n := by
  refine h _ ?_
  rw [show W.getD i [] = W[i] by simp [hi]]
  exact List.getElem_mem hi
theorem getO_len {W : List (List (Option Nat))} {n i : Nat} (h : ∀ r ∈ W, r.length = n) (hi : i < W.length) : (W.getD i []).length = n := by
  refine h _ ?_
  rw [show W.getD i [] = W[i] by simp [hi]]
  exact List.getElem_mem hi
section
variable {V : EnvQ} {L L1 L2 : Lcs}
theorem q_asgT {tg : Tg} {e : E} {d : D} {ss : Ss} {r : RS} (h : den V e L = .ok (d, L1)) (h2 : tg.set d L1 = some L2) (h3 : runSs V ss L2 = r) : runSs V (.cons (.asg tg e) ss) L = r := by
  refine (nx_cons (L1 := L2) ?_).trans h3
  rw [run_asg, h]
  simp only [Res.seq, h2, RS.of]
theorem fr_cut {s : S} {ss : Ss} {o : Option D} {d0 : D} {I I2 : Lcs → Prop} (h : FR (runS V s L) o I) (h1 : ∀ x, o = some x → x = d0) (h2 : o = none → ∀ L2, I L2 → FR (runSs V ss L2) (some d0) I2) : FR (runSs V (.cons s ss) L) (some d0) I2 := by
  have := fr_ss (I2 := I2) h h2
  cases o with
  | none => exact this
  | some x => rw [h1 x rfl] at this; exact this
theorem fr_pre {s : S} {ss : Ss} {o : Option D} {I : Lcs → Prop} (h : runS V s L = .nx L1) (h2 : FR (runSs V ss L1) o I) : FR (runSs V (.cons s ss) L) o I := by
  rw [nx_cons h]; exact h2
theorem src_own {i : Nat} {b : Bool} {xs : List Nat} (h : L[i]? = some (some (iL b xs))) : src V (.e (.p (.var i))) L = .ok (xs.map nD, L.set i (some (iL false xs))) := by
  cases b with
  | true =>
    rw [src_e, x_fz h]
    simp only [seqF, iL_fz, D.els]
  | false =>
    rw [src_IL h (.inl rfl)]
    have hi := List.getElem?_eq_some_iff.mp h
    congr 2
    rw [← hi.2]
    exact (List.set_getElem_self hi.1).symm
theorem neB {p q : P} {x y : Bool} (hp : pur V.G p L = some (.bl x)) (hq : pur V.G q L = some (.bl y)) : pur V.G (.o2 .ne p q) L = some (.bl (x != y)) := by
  refine (pur2 hp hq).trans ?_
  cases x <;> cases y <;> rfl
theorem p_g2 {w i j : P} {wd : D} {ws : List D} {W : List (List Nat)} {a b : Nat} (hw : pur V.G w L = some wd) (he : wd.els = some ws) (hr : Rows ws W) (hi : pur V.G i L = some (nD a)) (hj : pur V.G j L = some (nD b)) (ha : a < W.length) (hb : b < (W.getD a []).length) : pur V.G (.o2 .ix (.o2 .ix w i) j) L = some (nD (g2 W a b)) := by
  obtain ⟨r, h1, h2⟩ := hr.get ha
  refine p_ix (p_ix hw he hi h1) h2 hj ?_
  rw [List.getElem?_map, getD_atN hb]
  rfl
theorem enumG (k : Nat) : ∀ a : List D, enumD (k : Int) a = (List.range a.length).map fun i => D.tup [nD (k + i), a.getD i .non]
  | [] => rfl
  | x :: a => by
    have ih := enumG (k + 1) a
    rw [enumD, List.length_cons, List.range_succ_eq_map, List.map_cons, List.map_map]
    have e1 : (k : Int) + 1 = ((k + 1 : Nat) : Int) := by omega
    rw [e1, ih]
    have cc : ∀ (u v : D) (x y : List D), u = v → x = y → u :: x = v :: y := fun u v x y h1 h2 => by rw [h1, h2]
    refine cc _ _ _ _ rfl (List.map_congr_left fun i _ => ?_)
    show D.tup [nD (k + 1 + i), a.getD i .non] = D.tup [nD (k + (i + 1)), (x :: a).getD (i + 1) .non]
    rw [show k + 1 + i = k + (i + 1) by omega]
    rfl
theorem src_enumG {i : Nat} {d : D} {as : List D} (h : L[i]? = some (some d)) (hf : d.fz = d) (hd : d = .tup as ∨ d = .lst false as) : src V (.enum (.p (.var i))) L = .ok ((List.range as.length).map fun i => D.tup [nD i, as.getD i .non], L) := by
  rw [src_enum, keepD (p_var h) (by rw [← hf]; exact noOwn_fz d)]
  simp only [Res.bind, hf]
  have e : enumRun d = some (enumD 0 as) := by rcases hd with rfl | rfl <;> rfl
  rw [e]
  simp only [Res.of]
  refine congrArg (fun l => Res.ok (l, L)) ((enumG 0 as).trans (List.map_congr_left fun i _ => by rw [Nat.zero_add]))
/-- all is None in an ask -/
theorem x_allN {t s : Nat} {a : List (Option Nat)} (hs : src V (.e (.p (.var s))) L = .ok (a.map oD, L)) (ht : L[t]? = some none) : den V (.sq .all (.lc [t] (.nm t) (.e (.p (.var s))) .nil (.p (.o1 .isN (.var t))))) L = .ok (.bl (a.all Option.isNone), L) := by
  have hlen : t < L.length := (List.getElem?_eq_some_iff.mp ht).1
  have e0 : L.set t none = L := by
    have hi := List.getElem?_eq_some_iff.mp ht
    rw [← hi.2]; exact List.set_getElem_self hi.1
  refine x_all rfl (lc_all oD (fun o => D.bl o.isNone) a hs (fun x _ => ⟨L.set t (some (oD x)), ?_, ?_, ?_⟩) ?_)
  · show some ((L.set t none).set t (some (oD x))) = _
    rw [e0]
  · show (L.set t (some (oD x))).set t none = L.set t none
    rw [List.set_set]
  · refine keepD ((pur1 (d := oD x) (by simp only [pur, List.getElem?_set_self hlen])).trans ?_) rfl
    cases x <;> rfl
  · show (wipeL L [t]).set t (was L t) = L
    show ((L.set t none)).set t (was L t) = L
    unfold was
    rw [ht, List.set_set]
    exact e0
end
end Q

namespace Q
open PySem L2 PySem.Spec
def bd_is_list : Ss :=
 (.cons (.ret (.p (.o1 (.isi ["list", "tuple"]) (.var 0))))
 .nil)
abbrev Is_is_list (T : Tab) : Prop := FnIs T (Str.ofString "is_list") [Str.ofString "thing"] 1 [] bd_is_list
def bd_is_whole : Ss :=
 (.cons (.ret (.p (.and (.o1 (.isi ["int"]) (.var 0)) (.o1 .not (.o1 (.isi ["bool"]) (.var 0))))))
 .nil)
abbrev Is_is_whole (T : Tab) : Prop := FnIs T (Str.ofString "is_whole") [Str.ofString "thing"] 1 [] bd_is_whole
def bd_is_number : Ss :=
 (.cons (.ret (.and (.call (Str.ofString "is_whole") [] (.cons (.p (.var 0)) .nil)) (.p (.o2 .ge (.var 0) (.int 0)))))
 .nil)
abbrev Is_is_number (T : Tab) : Prop := FnIs T (Str.ofString "is_number") [Str.ofString "thing"] 1 [] bd_is_number
def bd_is_row : Ss :=
 (.cons (.ret (.and (.call (Str.ofString "is_list") [] (.cons (.p (.var 0)) .nil)) (.p (.o2 .eq (.o1 .len (.var 0)) (.var 1)))))
 .nil)
abbrev Is_is_row (T : Tab) : Prop := FnIs T (Str.ofString "is_row") [Str.ofString "thing", Str.ofString "many"] 2 [] bd_is_row
def bd_kept_tolls : Ss :=
 (.cons (.ifs (.or (.o1 .not (.call (Str.ofString "is_row") [] (.cons (.p (.var 1)) (.cons (.p (.var 0)) .nil)))) (.o1 .not (.sq .all (.lc [2] (.nm 2) (.e (.p (.var 1))) .nil (.or (.p (.o1 .isN (.var 2))) (.call (Str.ofString "is_number") [] (.cons (.p (.var 2)) .nil)))))))
 (.cons (.ret (.p .non))
 .nil)
 .nil)
 (.cons (.ret (.sq .tuple (.mv 1)))
 .nil))
abbrev Is_kept_tolls (T : Tab) : Prop := FnIs T (Str.ofString "kept_tolls") [Str.ofString "stands", Str.ofString "thing"] 3 [] bd_kept_tolls
def bd_kept_form : Ss :=
 (.cons (.ifs (.or (.o1 .not (.call (Str.ofString "is_row") [] (.cons (.p (.var 0)) (.cons (.p (.int 2)) .nil)))) (.or (.o1 .not (.call (Str.ofString "is_list") [] (.cons (.p (.o2 .ix (.var 0) (.int 0))) .nil))) (.o1 .not (.call (Str.ofString "is_list") [] (.cons (.p (.o2 .ix (.var 0) (.int 1))) .nil)))))
 (.cons (.ret (.p .non))
 .nil)
 .nil)
 (.cons (.asg (.nm 1) (.p (.o1 .len (.o2 .ix (.var 0) (.int 0)))))
 (.cons (.ifs (.p (.or (.o2 .eq (.var 1) (.int 0)) (.o2 .eq (.o1 .len (.o2 .ix (.var 0) (.int 1))) (.int 0))))
 (.cons (.ret (.p .non))
 .nil)
 .nil)
 (.cons (.ifs (.o1 .not (.sq .all (.lc [4] (.nm 4) (.e (.p (.o2 .ix (.var 0) (.int 0)))) .nil (.and (.call (Str.ofString "is_row") [] (.cons (.p (.var 4)) (.cons (.p (.var 1)) .nil))) (.sq .all (.lc [5] (.nm 5) (.e (.p (.var 4))) .nil (.call (Str.ofString "is_number") [] (.cons (.p (.var 5)) .nil))))))))
 (.cons (.ret (.p .non))
 .nil)
 .nil)
 (.cons (.asg (.nm 2) (.lc [3] (.nm 3) (.e (.p (.o2 .ix (.var 0) (.int 1)))) .nil (.call (Str.ofString "kept_tolls") [] (.cons (.p (.var 1)) (.cons (.p (.var 3)) .nil)))))
 (.cons (.ifs (.p (.o2 .isin .non (.var 2)))
 (.cons (.ret (.p .non))
 .nil)
 .nil)
 (.cons (.ret (.tup (.cons (.sq .tuple (.lc [4] (.nm 4) (.e (.p (.o2 .ix (.var 0) (.int 0)))) .nil (.sq .tuple (.p (.var 4))))) (.cons (.sq .tuple (.mv 2)) .nil))))
 .nil)))))))
abbrev Is_kept_form (T : Tab) : Prop := FnIs T (Str.ofString "kept_form") [Str.ofString "thing"] 6 [] bd_kept_form
def bd_fault_of : Ss :=
 (.cons (.asg (.tup [3, 4]) (.mv 0))
 (.cons (.asg (.nm 1) (.lr1 (.p (.o1 .len (.var 3)))))
 (.cons (.for_ (.nm 2) (.e (.p (.var 1)))
 (.cons (.for_ (.nm 5) (.e (.p (.var 1)))
 (.cons (.ifs (.p (.o2 .ne (.o2 .eq (.o2 .ix (.o2 .ix (.var 3) (.var 2)) (.var 5)) (.int 0)) (.o2 .eq (.var 2) (.var 5))))
 (.cons (.ret (.tup (.cons (.p (.str (Str.ofString "nought"))) (.cons (.mv 2) (.cons (.mv 5) .nil)))))
 .nil)
 .nil)
 .nil))
 .nil))
 (.cons (.for_ (.nm 2) (.e (.p (.var 1)))
 (.cons (.for_ (.nm 6) (.e (.p (.var 1)))
 (.cons (.for_ (.nm 5) (.e (.p (.var 1)))
 (.cons (.ifs (.p (.o2 .gt (.o2 .ix (.o2 .ix (.var 3) (.var 2)) (.var 5)) (.o2 .add (.o2 .ix (.o2 .ix (.var 3) (.var 2)) (.var 6)) (.o2 .ix (.o2 .ix (.var 3) (.var 6)) (.var 5)))))
 (.cons (.ret (.tup (.cons (.p (.str (Str.ofString "way"))) (.cons (.mv 2) (.cons (.mv 6) (.cons (.mv 5) .nil))))))
 .nil)
 .nil)
 .nil))
 .nil))
 .nil))
 (.cons (.for_ (.tup [7, 8]) (.enum (.p (.var 4)))
 (.cons (.ifs (.sq .all (.lc [9] (.nm 9) (.e (.p (.var 8))) .nil (.p (.o1 .isN (.var 9)))))
 (.cons (.ret (.tup (.cons (.p (.str (Str.ofString "ask"))) (.cons (.mv 7) .nil))))
 .nil)
 .nil)
 .nil))
 (.cons (.ret (.p .non))
 .nil))))))
abbrev Is_fault_of (T : Tab) : Prop := FnIs T (Str.ofString "fault_of") [Str.ofString "form"] 10 [] bd_fault_of
def bd_kept_store : Ss :=
 (.cons (.asg (.nm 1) (.call (Str.ofString "kept_form") [] (.cons (.p (.var 0)) .nil)))
 (.cons (.ret (.ife (.or (.p (.o1 .isN (.var 1))) (.o1 .ntN (.call (Str.ofString "fault_of") [] (.cons (.p (.var 1)) .nil)))) (.p .non) (.p (.var 1))))
 .nil))
abbrev Is_kept_store (T : Tab) : Prop := FnIs T (Str.ofString "kept_store") [Str.ofString "thing"] 2 [] bd_kept_store
def bd_is_store : Ss :=
 (.cons (.ret (.o1 .ntN (.call (Str.ofString "kept_store") [] (.cons (.p (.var 0)) .nil))))
 .nil)
abbrev Is_is_store (T : Tab) : Prop := FnIs T (Str.ofString "is_store") [Str.ofString "thing"] 1 [] bd_is_store
def bd_store_fault : Ss :=
 (.cons (.asg (.nm 1) (.call (Str.ofString "kept_form") [] (.cons (.p (.var 0)) .nil)))
 (.cons (.ret (.ife (.p (.o1 .isN (.var 1))) (.tup (.cons (.p (.str (Str.ofString "form"))) .nil)) (.call (Str.ofString "fault_of") [] (.cons (.p (.var 1)) .nil))))
 .nil))
abbrev Is_store_fault (T : Tab) : Prop := FnIs T (Str.ofString "store_fault") [Str.ofString "thing"] 2 [] bd_store_fault
def bd_l_is_number : Ss :=
 (.cons (.ret (.p (.and (.o1 (.isi ["int"]) (.var 0)) (.and (.o1 .not (.o1 (.isi ["bool"]) (.var 0))) (.o2 .ge (.var 0) (.int 0))))))
 .nil)
abbrev Is_l_is_number (T : Tab) : Prop := FnIs T (Str.ofString "_law_is_number") [Str.ofString "thing"] 1 [] bd_l_is_number
def bd_l_store_fault : Ss :=
 (.cons (.ifs (.or (.p (.o1 .not (.o1 (.isi ["list", "tuple"]) (.var 0)))) (.or (.p (.o2 .ne (.o1 .len (.var 0)) (.int 2))) (.o1 .not (.sq .all (.lc [11] (.nm 11) (.e (.p (.var 0))) .nil (.p (.and (.o1 (.isi ["list", "tuple"]) (.var 11)) (.o2 .gt (.o1 .len (.var 11)) (.int 0)))))))))
 (.cons (.ret (.tup (.cons (.p (.str (Str.ofString "form"))) .nil)))
 .nil)
 .nil)
 (.cons (.asg (.tup [5, 6]) (.mv 0))
 (.cons (.for_ (.nm 1) (.e (.p (.var 5)))
 (.cons (.ifs (.or (.p (.o1 .not (.o1 (.isi ["list", "tuple"]) (.var 1)))) (.or (.p (.o2 .ne (.o1 .len (.var 1)) (.o1 .len (.var 5)))) (.o1 .not (.sq .all (.lc [12] (.nm 12) (.e (.p (.var 1))) .nil (.call (Str.ofString "_law_is_number") [] (.cons (.p (.var 12)) .nil)))))))
 (.cons (.ret (.tup (.cons (.p (.str (Str.ofString "form"))) .nil)))
 .nil)
 .nil)
 .nil))
 (.cons (.for_ (.nm 2) (.e (.p (.var 6)))
 (.cons (.ifs (.or (.p (.o1 .not (.o1 (.isi ["list", "tuple"]) (.var 2)))) (.or (.p (.o2 .ne (.o1 .len (.var 2)) (.o1 .len (.var 5)))) (.o1 .not (.sq .all (.lc [10] (.nm 10) (.e (.p (.var 2))) .nil (.or (.p (.o1 .isN (.var 10))) (.call (Str.ofString "_law_is_number") [] (.cons (.p (.var 10)) .nil))))))))
 (.cons (.ret (.tup (.cons (.p (.str (Str.ofString "form"))) .nil)))
 .nil)
 .nil)
 .nil))
 (.cons (.asg (.nm 3) (.lr1 (.p (.o1 .len (.var 5)))))
 (.cons (.for_ (.nm 4) (.e (.p (.var 3)))
 (.cons (.for_ (.nm 7) (.e (.p (.var 3)))
 (.cons (.ifs (.p (.o2 .ne (.o2 .eq (.o2 .ix (.o2 .ix (.var 5) (.var 4)) (.var 7)) (.int 0)) (.o2 .eq (.var 4) (.var 7))))
 (.cons (.ret (.tup (.cons (.p (.str (Str.ofString "nought"))) (.cons (.mv 4) (.cons (.mv 7) .nil)))))
 .nil)
 .nil)
 .nil))
 .nil))
 (.cons (.for_ (.nm 4) (.e (.p (.var 3)))
 (.cons (.for_ (.nm 8) (.e (.p (.var 3)))
 (.cons (.for_ (.nm 7) (.e (.p (.var 3)))
 (.cons (.ifs (.p (.o2 .gt (.o2 .ix (.o2 .ix (.var 5) (.var 4)) (.var 7)) (.o2 .add (.o2 .ix (.o2 .ix (.var 5) (.var 4)) (.var 8)) (.o2 .ix (.o2 .ix (.var 5) (.var 8)) (.var 7)))))
 (.cons (.ret (.tup (.cons (.p (.str (Str.ofString "way"))) (.cons (.mv 4) (.cons (.mv 8) (.cons (.mv 7) .nil))))))
 .nil)
 .nil)
 .nil))
 .nil))
 .nil))
 (.cons (.for_ (.tup [9, 2]) (.enum (.p (.var 6)))
 (.cons (.ifs (.sq .all (.lc [10] (.nm 10) (.e (.p (.var 2))) .nil (.p (.o1 .isN (.var 10)))))
 (.cons (.ret (.tup (.cons (.p (.str (Str.ofString "ask"))) (.cons (.mv 9) .nil))))
 .nil)
 .nil)
 .nil))
 (.cons (.ret (.p .non))
 .nil)))))))))
abbrev Is_l_store_fault (T : Tab) : Prop := FnIs T (Str.ofString "_law_store_fault") [Str.ofString "thing"] 13 [] bd_l_store_fault
def bd_l_store : Ss :=
 (.cons (.asg (.nm 4) (.call (Str.ofString "_law_draw") [] (.cons (.p (.var 0)) (.cons (.p (.int 3)) .nil))))
 (.cons (.asg (.nm 5) (.lc [12] (.nm 12) (.rng (.cons (.p (.var 1)) .nil)) .nil (.rep (.lst (.cons (.p (.int 0)) .nil)) (.p (.var 1)))))
 (.cons (.for_ (.nm 6) (.rng (.cons (.p (.var 1)) .nil))
 (.cons (.for_ (.nm 9) (.rng (.cons (.p (.var 1)) .nil))
 (.cons (.ifs (.p (.o2 .ne (.var 6) (.var 9)))
 (.cons (.setx 5 [(.var 6)] (.var 9) (.ife (.p (.and (.o2 .lt (.var 4) (.int 2)) (.o2 .lt (.var 9) (.var 6)))) (.p (.o2 .ix (.o2 .ix (.var 5) (.var 9)) (.var 6))) (.o2 .add (.p (.int 1)) (.call (Str.ofString "_law_draw") [] (.cons (.p (.var 0)) (.cons (.ife (.p (.o2 .gt (.var 4) (.int 0))) (.p (.var 3)) (.p (.int 1))) .nil))))))
 .nil)
 .nil)
 .nil))
 .nil))
 (.cons (.asg (.nm 7) (.lst .nil))
 (.cons (.for_ (.nm 8) (.rng (.cons (.p (.var 2)) .nil))
 (.cons (.asg (.nm 10) (.lc [12] (.nm 12) (.rng (.cons (.p (.var 1)) .nil)) .nil (.call (Str.ofString "_law_pick") [] (.cons (.p (.var 0)) (.cons (.lst (.cons (.p .non) (.cons (.p (.int 0)) (.cons (.p (.int 0)) (.cons (.p (.int 1)) (.cons (.o2 .add (.p (.int 1)) (.call (Str.ofString "_law_draw") [] (.cons (.p (.var 0)) (.cons (.p (.var 3)) .nil)))) .nil)))))) .nil)))))
 (.cons (.asg (.nm 11) (.call (Str.ofString "_law_draw") [] (.cons (.p (.var 0)) (.cons (.p (.var 1)) .nil))))
 (.cons (.setx 10 [] (.var 11) (.ife (.p (.o1 .ntN (.o2 .ix (.var 10) (.var 11)))) (.p (.o2 .ix (.var 10) (.var 11))) (.call (Str.ofString "_law_draw") [] (.cons (.p (.var 0)) (.cons (.p (.int 2)) .nil)))))
 (.cons (.app 7 [] (.mv 10))
 .nil)))))
 (.cons (.ret (.tup (.cons (.call (Str.ofString "_law_closed") [] (.cons (.p (.var 5)) .nil)) (.cons (.mv 7) .nil))))
 .nil))))))
abbrev Is_l_store (T : Tab) : Prop := FnIs T (Str.ofString "_law_store") [Str.ofString "stream", Str.ofString "stands", Str.ofString "asks", Str.ofString "most"] 13 [true] bd_l_store
def bd_l_closed : Ss :=
 (.cons (.par [2, 3] (.cons (.p (.o1 .len (.var 0))) (.cons (.lc [6] (.nm 6) (.e (.p (.var 0))) .nil (.sq .list (.p (.var 6)))) .nil)))
 (.cons (.for_ (.nm 1) (.rng (.cons (.p (.var 2)) .nil))
 (.cons (.for_ (.nm 4) (.rng (.cons (.p (.var 2)) .nil))
 (.cons (.for_ (.nm 5) (.rng (.cons (.p (.var 2)) .nil))
 (.cons (.setx 3 [(.var 4)] (.var 5) (.p (.o2 .min (.o2 .ix (.o2 .ix (.var 3) (.var 4)) (.var 5)) (.o2 .add (.o2 .ix (.o2 .ix (.var 3) (.var 4)) (.var 1)) (.o2 .ix (.o2 .ix (.var 3) (.var 1)) (.var 5))))))
 .nil))
 .nil))
 .nil))
 (.cons (.ret (.mv 3))
 .nil)))
abbrev Is_l_closed (T : Tab) : Prop := FnIs T (Str.ofString "_law_closed") [Str.ofString "ways"] 7 [] bd_l_closed

theorem fr_mono {r : RS} {o : Option D} {I I2 : Lcs → Prop} (h : FR r o I) (hi : ∀ L, I L → I2 L) : FR r o I2 := by
  cases o with
  | none => obtain ⟨L2, e, h2⟩ := h; exact ⟨L2, e, hi L2 h2⟩
  | some d => exact h

/-! the looks for what is wrong first, slots as in P -/
abbrev mkP (o1 ev oa ob oc oi os : Option D) (wd ad : D) : Lcs := [none, ev, oa, some wd, some ad, ob, oc, oi, os, none]
def IFP (n : Nat) (wd ad : D) (L : Lcs) : Prop := ∃ o1 bb oa ob oc oi os, L = mkP o1 (some (iL bb (List.range n))) oa ob oc oi os wd ad
abbrev S1P : S := (.for_ (.nm 2) (.e (.p (.var 1)))
 (.cons (.for_ (.nm 5) (.e (.p (.var 1)))
 (.cons (.ifs (.p (.o2 .ne (.o2 .eq (.o2 .ix (.o2 .ix (.var 3) (.var 2)) (.var 5)) (.int 0)) (.o2 .eq (.var 2) (.var 5))))
 (.cons (.ret (.tup (.cons (.p (.str (Str.ofString "nought"))) (.cons (.mv 2) (.cons (.mv 5) .nil)))))
 .nil)
 .nil)
 .nil))
 .nil))
abbrev S2P : S := (.for_ (.nm 2) (.e (.p (.var 1)))
 (.cons (.for_ (.nm 6) (.e (.p (.var 1)))
 (.cons (.for_ (.nm 5) (.e (.p (.var 1)))
 (.cons (.ifs (.p (.o2 .gt (.o2 .ix (.o2 .ix (.var 3) (.var 2)) (.var 5)) (.o2 .add (.o2 .ix (.o2 .ix (.var 3) (.var 2)) (.var 6)) (.o2 .ix (.o2 .ix (.var 3) (.var 6)) (.var 5)))))
 (.cons (.ret (.tup (.cons (.p (.str (Str.ofString "way"))) (.cons (.mv 2) (.cons (.mv 6) (.cons (.mv 5) .nil))))))
 .nil)
 .nil)
 .nil))
 .nil))
 .nil))
abbrev S3P : S := (.for_ (.tup [7, 8]) (.enum (.p (.var 4)))
 (.cons (.ifs (.sq .all (.lc [9] (.nm 9) (.e (.p (.var 8))) .nil (.p (.o1 .isN (.var 9)))))
 (.cons (.ret (.tup (.cons (.p (.str (Str.ofString "ask"))) (.cons (.mv 7) .nil))))
 .nil)
 .nil)
 .nil))
section
variable {V : EnvQ} {wd ad : D} {ws as : List D} {W : List (List Nat)} {A : List (List (Option Nat))}
theorem f1P (we : wd.els = some ws) (hr : Rows ws W) (hd : ∀ r ∈ W, r.length = W.length) {L : Lcs} (hI : IFP W.length wd ad L) : FR (runS V S1P L) (fa1 W) (IFP W.length wd ad) := by
  obtain ⟨o1, bb, oa, ob, oc, oi, os, rfl⟩ := hI
  refine fr_for (dx := nD) (xs := List.range W.length) (L1 := mkP o1 (some (iL false (List.range W.length))) oa ob oc oi os wd ad) ((src_own (b := bb) (xs := List.range W.length) rfl).trans rfl) ⟨_, _, _, _, _, _, _, rfl⟩ ?_
  rintro i hi _ ⟨o1, bb, oa, ob, oc, oi, os, rfl⟩
  have hi := List.mem_range.mp hi
  refine ⟨mkP o1 (some (iL bb (List.range W.length))) (some (nD i)) ob oc oi os wd ad, rfl, fr_one (fr_mono (I := fun L => ∃ bb ob, L = mkP o1 (some (iL bb (List.range W.length))) (some (nD i)) ob oc oi os wd ad) ?_ (by rintro _ ⟨_, _, rfl⟩; exact ⟨_, _, _, _, _, _, _, rfl⟩))⟩
  refine fr_for (dx := nD) (xs := List.range W.length) (L1 := mkP o1 (some (iL false (List.range W.length))) (some (nD i)) ob oc oi os wd ad) ((src_own (b := bb) (xs := List.range W.length) rfl).trans rfl) ⟨_, _, rfl⟩ ?_
  rintro j hj _ ⟨bb, ob, rfl⟩
  have hj := List.mem_range.mp hj
  refine ⟨mkP o1 (some (iL bb (List.range W.length))) (some (nD i)) (some (nD j)) oc oi os wd ad, rfl, fr_one (fr_if (L1 := mkP o1 (some (iL bb (List.range W.length))) (some (nD i)) (some (nD j)) oc oi os wd ad) (rdP (neB (eqN (a := g2 W i j) (b := 0) (p_g2 rfl we hr rfl rfl hi (by rw [getD_len hd hi]; exact hj)) rfl) (eqN (a := i) (b := j) rfl rfl))) (fun _ => q_ret (x_tup (q_cons (keepD rfl rfl) (q_cons (x_mv rfl) (q_cons (x_mv rfl) q_end))))) (fun _ => ⟨_, _, rfl⟩))⟩
theorem f2P (we : wd.els = some ws) (hr : Rows ws W) (hd : ∀ r ∈ W, r.length = W.length) {L : Lcs} (hI : IFP W.length wd ad L) : FR (runS V S2P L) (fa2 W) (IFP W.length wd ad) := by
  obtain ⟨o1, bb, oa, ob, oc, oi, os, rfl⟩ := hI
  refine fr_for (dx := nD) (xs := List.range W.length) (L1 := mkP o1 (some (iL false (List.range W.length))) oa ob oc oi os wd ad) ((src_own (b := bb) (xs := List.range W.length) rfl).trans rfl) ⟨_, _, _, _, _, _, _, rfl⟩ ?_
  rintro i hi _ ⟨o1, bb, oa, ob, oc, oi, os, rfl⟩
  have hi := List.mem_range.mp hi
  refine ⟨mkP o1 (some (iL bb (List.range W.length))) (some (nD i)) ob oc oi os wd ad, rfl, fr_one (fr_mono (I := fun L => ∃ bb ob oc, L = mkP o1 (some (iL bb (List.range W.length))) (some (nD i)) ob oc oi os wd ad) ?_ (by rintro _ ⟨_, _, _, rfl⟩; exact ⟨_, _, _, _, _, _, _, rfl⟩))⟩
  refine fr_for (dx := nD) (xs := List.range W.length) (L1 := mkP o1 (some (iL false (List.range W.length))) (some (nD i)) ob oc oi os wd ad) ((src_own (b := bb) (xs := List.range W.length) rfl).trans rfl) ⟨_, _, _, rfl⟩ ?_
  rintro c hc _ ⟨bb, ob, oc, rfl⟩
  have hc := List.mem_range.mp hc
  refine ⟨mkP o1 (some (iL bb (List.range W.length))) (some (nD i)) ob (some (nD c)) oi os wd ad, rfl, fr_one (fr_mono (I := fun L => ∃ bb ob, L = mkP o1 (some (iL bb (List.range W.length))) (some (nD i)) ob (some (nD c)) oi os wd ad) ?_ (by rintro _ ⟨_, _, rfl⟩; exact ⟨_, _, _, rfl⟩))⟩
  refine fr_for (dx := nD) (xs := List.range W.length) (L1 := mkP o1 (some (iL false (List.range W.length))) (some (nD i)) ob (some (nD c)) oi os wd ad) ((src_own (b := bb) (xs := List.range W.length) rfl).trans rfl) ⟨_, _, rfl⟩ ?_
  rintro j hj _ ⟨bb, ob, rfl⟩
  have hj := List.mem_range.mp hj
  have li : ∀ {x : Nat}, x < W.length → x < (W.getD i []).length := fun h => by rw [getD_len hd hi]; exact h
  have lc : ∀ {x : Nat}, x < W.length → x < (W.getD c []).length := fun h => by rw [getD_len hd hc]; exact h
  refine ⟨mkP o1 (some (iL bb (List.range W.length))) (some (nD i)) (some (nD j)) (some (nD c)) oi os wd ad, rfl, fr_one (fr_if (L1 := mkP o1 (some (iL bb (List.range W.length))) (some (nD i)) (some (nD j)) (some (nD c)) oi os wd ad) (rdP (gtN (a := g2 W i j) (b := g2 W i c + g2 W c j) (p_g2 rfl we hr rfl rfl hi (li hj)) (addN (p_g2 rfl we hr rfl rfl hi (li hc)) (p_g2 rfl we hr rfl rfl hc (lc hj))))) (fun _ => q_ret (x_tup (q_cons (keepD rfl rfl) (q_cons (x_mv rfl) (q_cons (x_mv rfl) (q_cons (x_mv rfl) q_end)))))) (fun _ => ⟨_, _, rfl⟩))⟩
theorem f3P (hf : ad.fz = ad) (had : ad = .tup as ∨ ad = .lst false as) (hr : Asks as A) (hfe : ∀ x ∈ as, x.fz = x) {L : Lcs} (hI : IFP W.length wd ad L) : FR (runS V S3P L) (fa3 A) (IFP W.length wd ad) := by
  obtain ⟨o1, bb, oa, ob, oc, oi, os, rfl⟩ := hI
  have hl := hr.len
  refine fr_for (dx := fun i => D.tup [nD i, as.getD i .non]) (xs := List.range A.length) (L1 := mkP o1 (some (iL bb (List.range W.length))) oa ob oc oi os wd ad) ((src_enumG (as := as) rfl hf had).trans (by rw [hl])) ⟨_, _, _, _, _, _, _, rfl⟩ ?_
  rintro i hi _ ⟨o1, bb, oa, ob, oc, oi, os, rfl⟩
  have hi := List.mem_range.mp hi
  obtain ⟨r, h1, h2⟩ := hr.get hi
  have e1 : as.getD i .non = r := by rw [List.getD_eq_getElem?_getD, h1]; rfl
  have hrf : r.fz = r := hfe r (List.mem_of_getElem? h1)
  refine ⟨mkP o1 (some (iL bb (List.range W.length))) oa ob oc (some (nD i)) (some (as.getD i .non)) wd ad, rfl, ?_⟩
  rw [e1]
  have hs : src V (.e (.p (.var 8))) (mkP o1 (some (iL bb (List.range W.length))) oa ob oc (some (nD i)) (some r) wd ad) = .ok ((A.getD i []).map oD, mkP o1 (some (iL bb (List.range W.length))) oa ob oc (some (nD i)) (some r) wd ad) := src_var (d := r) rfl (by rw [← hrf]; exact noOwn_fz r) (by rw [hrf]; exact h2)
  exact fr_one (fr_if (L1 := mkP o1 (some (iL bb (List.range W.length))) oa ob oc (some (nD i)) (some r) wd ad) (rdE (h := x_allN (t := 9) (s := 8) hs rfl)) (fun _ => q_ret (x_tup (q_cons (keepD rfl rfl) (q_cons (x_mv rfl) q_end)))) (fun _ => ⟨_, _, _, _, _, _, _, rfl⟩))
theorem f4P {ss : Ss} (we : wd.els = some ws) (hr : Rows ws W) (hd : ∀ r ∈ W, r.length = W.length) (hf : ad.fz = ad) (had : ad = .tup as ∨ ad = .lst false as) (ha : Asks as A) (hfe : ∀ x ∈ as, x.fz = x) {L : Lcs} (hI : IFP W.length wd ad L) (hs : ss = .cons S1P (.cons S2P (.cons S3P (.cons (.ret (.p .non)) .nil)))) : FR (runSs V ss L) (some (faultD W A)) (fun _ => True) := by
  subst hs
  refine fr_cut (f1P we hr hd hI) (fun x hx => ?_) (fun e1 L2 h2 => fr_cut (f2P we hr hd h2) (fun x hx => ?_) (fun e2 L3 h3 => fr_cut (f3P (W := W) hf had ha hfe h3) (fun x hx => ?_) (fun e3 L4 h4 => ?_)))
  · unfold faultD faultO; rw [hx]; rfl
  · unfold faultD faultO; rw [e1, hx]; rfl
  · unfold faultD faultO; rw [e1, e2, hx]; rfl
  · have : faultD W A = .non := by unfold faultD faultO; rw [e1, e2, e3]; rfl
    rw [this]
    exact fr_rt (q_ret (keepD rfl rfl))
end

/-! the looks for what is wrong first, slots as in L -/
abbrev mkL (o1 ev oa ob oc oi os : Option D) (wd ad : D) : Lcs := [none, o1, os, ev, oa, some wd, some ad, ob, oc, oi, none, none, none]
def IFL (n : Nat) (wd ad : D) (L : Lcs) : Prop := ∃ o1 bb oa ob oc oi os, L = mkL o1 (some (iL bb (List.range n))) oa ob oc oi os wd ad
abbrev S1L : S := (.for_ (.nm 4) (.e (.p (.var 3)))
 (.cons (.for_ (.nm 7) (.e (.p (.var 3)))
 (.cons (.ifs (.p (.o2 .ne (.o2 .eq (.o2 .ix (.o2 .ix (.var 5) (.var 4)) (.var 7)) (.int 0)) (.o2 .eq (.var 4) (.var 7))))
 (.cons (.ret (.tup (.cons (.p (.str (Str.ofString "nought"))) (.cons (.mv 4) (.cons (.mv 7) .nil)))))
 .nil)
 .nil)
 .nil))
 .nil))
abbrev S2L : S := (.for_ (.nm 4) (.e (.p (.var 3)))
 (.cons (.for_ (.nm 8) (.e (.p (.var 3)))
 (.cons (.for_ (.nm 7) (.e (.p (.var 3)))
 (.cons (.ifs (.p (.o2 .gt (.o2 .ix (.o2 .ix (.var 5) (.var 4)) (.var 7)) (.o2 .add (.o2 .ix (.o2 .ix (.var 5) (.var 4)) (.var 8)) (.o2 .ix (.o2 .ix (.var 5) (.var 8)) (.var 7)))))
 (.cons (.ret (.tup (.cons (.p (.str (Str.ofString "way"))) (.cons (.mv 4) (.cons (.mv 8) (.cons (.mv 7) .nil))))))
 .nil)
 .nil)
 .nil))
 .nil))
 .nil))
abbrev S3L : S := (.for_ (.tup [9, 2]) (.enum (.p (.var 6)))
 (.cons (.ifs (.sq .all (.lc [10] (.nm 10) (.e (.p (.var 2))) .nil (.p (.o1 .isN (.var 10)))))
 (.cons (.ret (.tup (.cons (.p (.str (Str.ofString "ask"))) (.cons (.mv 9) .nil))))
 .nil)
 .nil)
 .nil))
section
variable {V : EnvQ} {wd ad : D} {ws as : List D} {W : List (List Nat)} {A : List (List (Option Nat))}
theorem f1L (we : wd.els = some ws) (hr : Rows ws W) (hd : ∀ r ∈ W, r.length = W.length) {L : Lcs} (hI : IFL W.length wd ad L) : FR (runS V S1L L) (fa1 W) (IFL W.length wd ad) := by
  obtain ⟨o1, bb, oa, ob, oc, oi, os, rfl⟩ := hI
  refine fr_for (dx := nD) (xs := List.range W.length) (L1 := mkL o1 (some (iL false (List.range W.length))) oa ob oc oi os wd ad) ((src_own (b := bb) (xs := List.range W.length) rfl).trans rfl) ⟨_, _, _, _, _, _, _, rfl⟩ ?_
  rintro i hi _ ⟨o1, bb, oa, ob, oc, oi, os, rfl⟩
  have hi := List.mem_range.mp hi
  refine ⟨mkL o1 (some (iL bb (List.range W.length))) (some (nD i)) ob oc oi os wd ad, rfl, fr_one (fr_mono (I := fun L => ∃ bb ob, L = mkL o1 (some (iL bb (List.range W.length))) (some (nD i)) ob oc oi os wd ad) ?_ (by rintro _ ⟨_, _, rfl⟩; exact ⟨_, _, _, _, _, _, _, rfl⟩))⟩
  refine fr_for (dx := nD) (xs := List.range W.length) (L1 := mkL o1 (some (iL false (List.range W.length))) (some (nD i)) ob oc oi os wd ad) ((src_own (b := bb) (xs := List.range W.length) rfl).trans rfl) ⟨_, _, rfl⟩ ?_
  rintro j hj _ ⟨bb, ob, rfl⟩
  have hj := List.mem_range.mp hj
  refine ⟨mkL o1 (some (iL bb (List.range W.length))) (some (nD i)) (some (nD j)) oc oi os wd ad, rfl, fr_one (fr_if (L1 := mkL o1 (some (iL bb (List.range W.length))) (some (nD i)) (some (nD j)) oc oi os wd ad) (rdP (neB (eqN (a := g2 W i j) (b := 0) (p_g2 rfl we hr rfl rfl hi (by rw [getD_len hd hi]; exact hj)) rfl) (eqN (a := i) (b := j) rfl rfl))) (fun _ => q_ret (x_tup (q_cons (keepD rfl rfl) (q_cons (x_mv rfl) (q_cons (x_mv rfl) q_end))))) (fun _ => ⟨_, _, rfl⟩))⟩
theorem f2L (we : wd.els = some ws) (hr : Rows ws W) (hd : ∀ r ∈ W, r.length = W.length) {L : Lcs} (hI : IFL W.length wd ad L) : FR (runS V S2L L) (fa2 W) (IFL W.length wd ad) := by
  obtain ⟨o1, bb, oa, ob, oc, oi, os, rfl⟩ := hI
  refine fr_for (dx := nD) (xs := List.range W.length) (L1 := mkL o1 (some (iL false (List.range W.length))) oa ob oc oi os wd ad) ((src_own (b := bb) (xs := List.range W.length) rfl).trans rfl) ⟨_, _, _, _, _, _, _, rfl⟩ ?_
  rintro i hi _ ⟨o1, bb, oa, ob, oc, oi, os, rfl⟩
  have hi := List.mem_range.mp hi
  refine ⟨mkL o1 (some (iL bb (List.range W.length))) (some (nD i)) ob oc oi os wd ad, rfl, fr_one (fr_mono (I := fun L => ∃ bb ob oc, L = mkL o1 (some (iL bb (List.range W.length))) (some (nD i)) ob oc oi os wd ad) ?_ (by rintro _ ⟨_, _, _, rfl⟩; exact ⟨_, _, _, _, _, _, _, rfl⟩))⟩
  refine fr_for (dx := nD) (xs := List.range W.length) (L1 := mkL o1 (some (iL false (List.range W.length))) (some (nD i)) ob oc oi os wd ad) ((src_own (b := bb) (xs := List.range W.length) rfl).trans rfl) ⟨_, _, _, rfl⟩ ?_
  rintro c hc _ ⟨bb, ob, oc, rfl⟩
  have hc := List.mem_range.mp hc
  refine ⟨mkL o1 (some (iL bb (List.range W.length))) (some (nD i)) ob (some (nD c)) oi os wd ad, rfl, fr_one (fr_mono (I := fun L => ∃ bb ob, L = mkL o1 (some (iL bb (List.range W.length))) (some (nD i)) ob (some (nD c)) oi os wd ad) ?_ (by rintro _ ⟨_, _, rfl⟩; exact ⟨_, _, _, rfl⟩))⟩
  refine fr_for (dx := nD) (xs := List.range W.length) (L1 := mkL o1 (some (iL false (List.range W.length))) (some (nD i)) ob (some (nD c)) oi os wd ad) ((src_own (b := bb) (xs := List.range W.length) rfl).trans rfl) ⟨_, _, rfl⟩ ?_
  rintro j hj _ ⟨bb, ob, rfl⟩
  have hj := List.mem_range.mp hj
  have li : ∀ {x : Nat}, x < W.length → x < (W.getD i []).length := fun h => by rw [getD_len hd hi]; exact h
  have lc : ∀ {x : Nat}, x < W.length → x < (W.getD c []).length := fun h => by rw [getD_len hd hc]; exact h
  refine ⟨mkL o1 (some (iL bb (List.range W.length))) (some (nD i)) (some (nD j)) (some (nD c)) oi os wd ad, rfl, fr_one (fr_if (L1 := mkL o1 (some (iL bb (List.range W.length))) (some (nD i)) (some (nD j)) (some (nD c)) oi os wd ad) (rdP (gtN (a := g2 W i j) (b := g2 W i c + g2 W c j) (p_g2 rfl we hr rfl rfl hi (li hj)) (addN (p_g2 rfl we hr rfl rfl hi (li hc)) (p_g2 rfl we hr rfl rfl hc (lc hj))))) (fun _ => q_ret (x_tup (q_cons (keepD rfl rfl) (q_cons (x_mv rfl) (q_cons (x_mv rfl) (q_cons (x_mv rfl) q_end)))))) (fun _ => ⟨_, _, rfl⟩))⟩
theorem f3L (hf : ad.fz = ad) (had : ad = .tup as ∨ ad = .lst false as) (hr : Asks as A) (hfe : ∀ x ∈ as, x.fz = x) {L : Lcs} (hI : IFL W.length wd ad L) : FR (runS V S3L L) (fa3 A) (IFL W.length wd ad) := by
  obtain ⟨o1, bb, oa, ob, oc, oi, os, rfl⟩ := hI
  have hl := hr.len
  refine fr_for (dx := fun i => D.tup [nD i, as.getD i .non]) (xs := List.range A.length) (L1 := mkL o1 (some (iL bb (List.range W.length))) oa ob oc oi os wd ad) ((src_enumG (as := as) rfl hf had).trans (by rw [hl])) ⟨_, _, _, _, _, _, _, rfl⟩ ?_
  rintro i hi _ ⟨o1, bb, oa, ob, oc, oi, os, rfl⟩
  have hi := List.mem_range.mp hi
  obtain ⟨r, h1, h2⟩ := hr.get hi
  have e1 : as.getD i .non = r := by rw [List.getD_eq_getElem?_getD, h1]; rfl
  have hrf : r.fz = r := hfe r (List.mem_of_getElem? h1)
  refine ⟨mkL o1 (some (iL bb (List.range W.length))) oa ob oc (some (nD i)) (some (as.getD i .non)) wd ad, rfl, ?_⟩
  rw [e1]
  have hs : src V (.e (.p (.var 2))) (mkL o1 (some (iL bb (List.range W.length))) oa ob oc (some (nD i)) (some r) wd ad) = .ok ((A.getD i []).map oD, mkL o1 (some (iL bb (List.range W.length))) oa ob oc (some (nD i)) (some r) wd ad) := src_var (d := r) rfl (by rw [← hrf]; exact noOwn_fz r) (by rw [hrf]; exact h2)
  exact fr_one (fr_if (L1 := mkL o1 (some (iL bb (List.range W.length))) oa ob oc (some (nD i)) (some r) wd ad) (rdE (h := x_allN (t := 10) (s := 2) hs rfl)) (fun _ => q_ret (x_tup (q_cons (keepD rfl rfl) (q_cons (x_mv rfl) q_end)))) (fun _ => ⟨_, _, _, _, _, _, _, rfl⟩))
theorem f4L {ss : Ss} (we : wd.els = some ws) (hr : Rows ws W) (hd : ∀ r ∈ W, r.length = W.length) (hf : ad.fz = ad) (had : ad = .tup as ∨ ad = .lst false as) (ha : Asks as A) (hfe : ∀ x ∈ as, x.fz = x) {L : Lcs} (hI : IFL W.length wd ad L) (hs : ss = .cons S1L (.cons S2L (.cons S3L (.cons (.ret (.p .non)) .nil)))) : FR (runSs V ss L) (some (faultD W A)) (fun _ => True) := by
  subst hs
  refine fr_cut (f1L we hr hd hI) (fun x hx => ?_) (fun e1 L2 h2 => fr_cut (f2L we hr hd h2) (fun x hx => ?_) (fun e2 L3 h3 => fr_cut (f3L (W := W) hf had ha hfe h3) (fun x hx => ?_) (fun e3 L4 h4 => ?_)))
  · unfold faultD faultO; rw [hx]; rfl
  · unfold faultD faultO; rw [e1, hx]; rfl
  · unfold faultD faultO; rw [e1, e2, hx]; rfl
  · have : faultD W A = .non := by unfold faultD faultO; rw [e1, e2, e3]; rfl
    rw [this]
    exact fr_rt (q_ret (keepD rfl rfl))
end
end Q

namespace Q
open PySem L2 PySem.Spec
/-! ## the functions of stores -/
theorem fr_ret0 {r : RS} {d : D} {I : Lcs → Prop} (h : FR r (some d) I) : retF [] r = .ok (d, []) := by
  obtain ⟨L2, e⟩ := h
  exact ret0 e
theorem no_of_fz {d : D} (h : d.fz = d) : d.noOwn = true := by rw [← h]; exact noOwn_fz d
section
variable {T : Tab} {G : Str → Option D} {N0 m : Nat} {d : D}
theorem islist_ok (h : Is_is_list T) : (envN T G N0 (m + 1)).call (Str.ofString "is_list") [d] = .ok (.bl d.els.isSome, []) := by
  rw [h.call]
  exact ret0 (q_ret (keepD (p_isL (d := d) rfl) rfl))
def isI : D → Bool
  | .int _ => true
  | _ => false
theorem iswhole_ok (h : Is_is_whole T) : (envN T G N0 (m + 1)).call (Str.ofString "is_whole") [d] = .ok (.bl (isI d), []) := by
  rw [h.call]
  cases d <;> exact ret0 (q_ret (keepD rfl rfl))
theorem isnum_ok (h : Is_is_number T) (hw : Is_is_whole T) (hf : d.fz = d) : (envN T G N0 (m + 2)).call (Str.ofString "is_number") [d] = .ok (.bl (numB d), []) := by
  rw [h.call]
  have c : den (envN T G N0 (m + 1)) (.call (Str.ofString "is_whole") [] (.cons (.p (.var 0)) .nil)) [some d] = .ok (.bl (isI d), [some d]) := calF hw (a_bor rfl a_end) (iswhole_ok hw) rfl (av1 rfl hf) rfl rfl
  cases d with
  | int i => exact ret0 (q_ret (x_andG (k2 := decide (0 ≤ i)) (rdE (h := c)) fun _ => rdP rfl))
  | _ => exact ret0 (q_ret (x_andG (k2 := false) (rdE (h := c)) fun z => by cases z))
theorem lnum_ok (h : Is_l_is_number T) : (envN T G N0 (m + 1)).call (Str.ofString "_law_is_number") [d] = .ok (.bl (numB d), []) := by
  rw [h.call]
  cases d with
  | int i => exact ret0 (q_ret (keepD (p_and (k1 := true) (k2 := decide (0 ≤ i)) rfl fun _ => rfl) rfl))
  | _ => exact ret0 (q_ret (keepD (d := .bl false) rfl rfl))
def rowB (n : Nat) (d : D) : Bool := match d.els with
  | none => false
  | some es => decide (es.length = n)
theorem isrow_ok {n : Nat} (h : Is_is_row T) (hl : Is_is_list T) (hf : d.fz = d) : (envN T G N0 (m + 2)).call (Str.ofString "is_row") [d, nD n] = .ok (.bl (rowB n d), []) := by
  rw [h.call]
  have c : den (envN T G N0 (m + 1)) (.call (Str.ofString "is_list") [] (.cons (.p (.var 0)) .nil)) [some d, some (nD n)] = .ok (.bl d.els.isSome, [some d, some (nD n)]) := calF hl (a_bor rfl a_end) (islist_ok hl) rfl (av1 rfl hf) rfl rfl
  cases he : d.els with
  | none =>
    rw [he] at c
    have : rowB n d = false := by unfold rowB; rw [he]
    rw [this]
    exact ret0 (q_ret (x_andG (k2 := false) (rdE (h := c)) fun z => by cases z))
  | some es =>
    rw [he] at c
    have : rowB n d = decide (es.length = n) := by unfold rowB; rw [he]
    rw [this]
    exact ret0 (q_ret (x_andG (rdE (h := c)) fun _ => rdP (eqN (a := es.length) (b := n) (p_len (d := d) rfl he) rfl)))
/-- what a row of tolls is kept as -/
def keptT (n : Nat) (r : D) : D := if badA n r = true then .non else match r.els with
  | none => .non
  | some es => .tup es
theorem kept_tolls_ok {n k : Nat} (h : Is_kept_tolls T) (hr : Is_is_row T) (hl : Is_is_list T) (hn : Is_is_number T) (hw : Is_is_whole T) (a : Ar (k + 1) d) : (envN T G N0 (m + 3)).call (Str.ofString "kept_tolls") [nD n, d] = .ok (keptT n d, []) := by
  rw [h.call]
  have c : den (envN T G N0 (m + 2)) (.call (Str.ofString "is_row") [] (.cons (.p (.var 1)) (.cons (.p (.var 0)) .nil))) [some (nD n), some d, none] = .ok (.bl (rowB n d), [some (nD n), some d, none]) := calF hr (a_bor rfl (a_bor rfl a_end)) (isrow_ok hr hl a.fz) rfl (avB rfl a.fz (av1 rfl rfl)) rfl rfl
  cases he : d.els with
  | none =>
    have e1 : rowB n d = false := by unfold rowB; rw [he]
    have e2 : keptT n d = .non := by unfold keptT badA; rw [he]; rfl
    rw [e1] at c
    rw [e2]
    exact ret0 (q_ifR (x_orG (k1 := true) (k2 := false) (x_notR (k := false) (rdE (h := c))) fun z => by cases z) (q_ret (keepD rfl rfl)))
  | some es =>
    have e1 : rowB n d = decide (es.length = n) := by unfold rowB; rw [he]
    rw [e1] at c
    have hlc : den (envN T G N0 (m + 2)) (.lc [2] (.nm 2) (.e (.p (.var 1))) .nil (.or (.p (.o1 .isN (.var 2))) (.call (Str.ofString "is_number") [] (.cons (.p (.var 2)) .nil)))) [some (nD n), some d, none] = .ok (.lst true (es.map fun x => D.bl (tollB x)), [some (nD n), some d, none]) := by
      refine lc_all id (fun x => D.bl (tollB x)) es (src_Ar rfl a he) (fun x hx => ⟨[some (nD n), some d, some x], rfl, rfl, ?_⟩) rfl
      have ax := (a.els he).2 x hx
      have cn : den (envN T G N0 (m + 2)) (.call (Str.ofString "is_number") [] (.cons (.p (.var 2)) .nil)) [some (nD n), some d, some x] = .ok (.bl (numB x), [some (nD n), some d, some x]) := calF hn (a_bor rfl a_end) (isnum_ok hn hw ax.fz) rfl (av1 rfl ax.fz) rfl rfl
      cases x with
      | non => exact x_orG (k1 := true) (k2 := true) (rdP rfl) fun z => by cases z
      | _ => exact x_orG (k1 := false) (rdP rfl) fun _ => rdE (h := cn)
    have hc := x_orG (L := [some (nD n), some d, none]) (x_notR (rdE (h := c))) fun _ => x_notR (rdE (h := x_all rfl hlc))
    have e3 : badA n d = (!decide (es.length = n) || !es.all tollB) := by
      unfold badA; rw [he]
      show (!(decide (es.length = n) && es.all tollB)) = _
      rw [Bool.not_and]
    rw [← e3] at hc
    cases hb : badA n d with
    | true =>
      rw [hb] at hc
      have : keptT n d = .non := by unfold keptT; rw [hb]; rfl
      rw [this]
      exact ret0 (q_ifR hc (q_ret (keepD rfl rfl)))
    | false =>
      rw [hb] at hc
      have : keptT n d = .tup es := by unfold keptT; rw [hb, he]; rfl
      rw [this]
      exact ret0 (q_if0 hc (q_ret (x_sqTupE rfl (x_mv rfl) he)))
/-! the form as tuples -/
def aT (a : List (Option Nat)) : D := .tup (a.map oD)
def wT (W : List (List Nat)) : D := .tup (W.map tL)
def aTs (A : List (List (Option Nat))) : D := .tup (A.map aT)
theorem rows_tup (W : List (List Nat)) : Rows (W.map tL) W := ⟨by rw [List.map_map]; rfl⟩
theorem asks_tup (A : List (List (Option Nat))) : Asks (A.map aT) A := ⟨by rw [List.map_map]; rfl⟩
theorem oD_fz (o : Option Nat) : (oD o).fz = oD o := by cases o <;> rfl
theorem aT_fz (a : List (Option Nat)) : (aT a).fz = aT a := by unfold aT; rw [D.fz, fzs_map oD_fz]
theorem wT_fz (W : List (List Nat)) : (wT W).fz = wT W := by unfold wT; rw [D.fz, fzs_map tL_fz]
theorem aTs_fz (W : List (List (Option Nat))) : (aTs W).fz = aTs W := by unfold aTs; rw [D.fz, fzs_map aT_fz]
theorem oD_sh (o : Option Nat) : (oD o).noSh = true := by cases o <;> rfl
theorem wT_sh (W : List (List Nat)) : (wT W).noSh = true := by unfold wT; rw [D.noSh, noShs_map tL_sh]
theorem aT_sh (a : List (Option Nat)) : (aT a).noSh = true := by unfold aT; rw [D.noSh, noShs_map oD_sh]
theorem aTs_sh (W : List (List (Option Nat))) : (aTs W).noSh = true := by unfold aTs; rw [D.noSh, noShs_map aT_sh]
def fD2 (W : List (List Nat)) (A : List (List (Option Nat))) : D := .tup [wT W, aTs A]
theorem fD2_fz (W : List (List Nat)) (A : List (List (Option Nat))) : (fD2 W A).fz = fD2 W A := by unfold fD2; rw [D.fz, D.fzs, D.fzs, D.fzs, wT_fz, aTs_fz]
theorem fD2_sh (W : List (List Nat)) (A : List (List (Option Nat))) : (fD2 W A).noSh = true := by unfold fD2; rw [D.noSh, D.noShs, D.noShs, D.noShs, wT_sh, aTs_sh]; rfl
theorem faultO_sh {W : List (List Nat)} {A : List (List (Option Nat))} : (faultD W A).noSh = true := by
  have h1 : ∀ x, fa1 W = some x → x.noSh = true := fun x hx => by
    obtain ⟨i, _, h⟩ := List.exists_of_findSome?_eq_some hx
    obtain ⟨j, _, h⟩ := List.exists_of_findSome?_eq_some h
    split at h <;> simp only [Option.some.injEq, reduceCtorEq] at h
    subst h; rfl
  have h2 : ∀ x, fa2 W = some x → x.noSh = true := fun x hx => by
    obtain ⟨i, _, h⟩ := List.exists_of_findSome?_eq_some hx
    obtain ⟨j, _, h⟩ := List.exists_of_findSome?_eq_some h
    obtain ⟨j, _, h⟩ := List.exists_of_findSome?_eq_some h
    split at h <;> simp only [Option.some.injEq, reduceCtorEq] at h
    subst h; rfl
  have h3 : ∀ x, fa3 A = some x → x.noSh = true := fun x hx => by
    obtain ⟨i, _, h⟩ := List.exists_of_findSome?_eq_some hx
    split at h <;> simp only [Option.some.injEq, reduceCtorEq] at h
    subst h; rfl
  unfold faultD faultO
  cases e1 : fa1 W with
  | some x => exact h1 x e1
  | none =>
    cases e2 : fa2 W with
    | some x => exact h2 x e2
    | none =>
      cases e3 : fa3 A with
      | some x => exact h3 x e3
      | none => rfl
theorem fault_ok (h : Is_fault_of T) {W : List (List Nat)} {A : List (List (Option Nat))} (hd : ∀ r ∈ W, r.length = W.length) (hw : W.length ≤ 1000) : (envN T G N0 (m + 1)).call (Str.ofString "fault_of") [fD2 W A] = .ok (faultD W A, []) := by
  rw [h.call]
  refine fr_ret0 (I := fun _ => True) (fr_pre (L1 := [none, none, none, some (wT W), some (aTs A), none, none, none, none, none]) (by rw [run_asg, x_mv (d := fD2 W A) rfl]; rfl) (fr_pre (L1 := mkP none (some (iL true (List.range W.length))) none none none none none (wT W) (aTs A)) (asgE (x_lr1 (n := W.length) (keepD ((p_len (d := wT W) (ds := W.map tL) rfl rfl).trans (by rw [List.length_map])) rfl) (by omega))) ?_))
  exact f4P (we := (rfl : (wT W).els = some (W.map tL))) (rows_tup W) hd (aTs_fz A) (.inl rfl) (asks_tup A) (fun x hx => by obtain ⟨y, _, rfl⟩ := List.mem_map.mp hx; exact aT_fz y) ⟨none, true, none, none, none, none, none, rfl⟩ rfl
/-! None in a list of kept tolls -/
theorem kept_py {k n : Nat} {r : D} (a : Ar (k + 1) r) : ∃ p, (keptT n r).toPy = some p ∧ p.canLay0 = true ∧ p.depth ≤ 3 ∧ PyData.eqv p .none = badA n r := by
  cases hb : badA n r with
  | true => exact ⟨.none, by unfold keptT; rw [hb]; rfl, rfl, by decide, rfl⟩
  | false =>
    obtain ⟨es, he, h2, h3, h4, _⟩ := badA_f hb
    have e1 : keptT n r = .tup es := by unfold keptT; rw [hb, he]; rfl
    have key : ∀ xs : List (Option Nat), ∃ ps, D.toPys (xs.map oD) = some ps ∧ PyData.canLayAll0 ps = true ∧ PyData.depthAll ps ≤ 1 := by
      intro xs
      induction xs with
      | nil => exact ⟨[], rfl, rfl, by decide⟩
      | cons x xs ih =>
        obtain ⟨ps, i1, i2, i3⟩ := ih
        cases x with
        | none => exact ⟨.none :: ps, by rw [List.map_cons, D.toPys, i1]; rfl, by rw [PyData.canLayAll0, i2]; rfl, by simp only [PyData.depthAll, PyData.depth]; omega⟩
        | some x => exact ⟨.int x :: ps, by rw [List.map_cons, D.toPys, i1]; rfl, by rw [PyData.canLayAll0, i2]; rfl, by simp only [PyData.depthAll, PyData.depth]; omega⟩
    obtain ⟨ps, p1, p2, p3⟩ := key (askN r)
    refine ⟨.tuple ps, ?_, p2, ?_, rfl⟩
    · rw [e1, h4]
      show (match D.toPys ((askN r).map oD) with | some ps => some (PyData.tuple ps) | none => none) = _
      rw [p1]
    · simp only [PyData.depth]; omega
theorem none_in {k n : Nat} {as : List D} (ha : ∀ x ∈ as, Ar (k + 1) x) (hl : 0 < as.length) : ap2 .isin .non (.lst true (as.map (keptT n))) = some (.bl (as.any (badA n))) := by
  have h1 : ∀ as : List D, (∀ x ∈ as, Ar (k + 1) x) → ∃ ps, D.toPys (as.map (keptT n)) = some ps ∧ PyData.canLayAll0 ps = true ∧ PyData.depthAll ps ≤ 3 ∧ (ps.any fun z => PyData.eqv z .none) = as.any (badA n) := by
    intro as
    induction as with
    | nil => exact fun _ => ⟨[], rfl, rfl, by decide, rfl⟩
    | cons x xs ih =>
      intro ha
      obtain ⟨ps, i1, i2, i3, i4⟩ := ih fun y hy => ha y (List.mem_cons_of_mem _ hy)
      obtain ⟨p, j1, j2, j3, j4⟩ := kept_py (n := n) (ha x List.mem_cons_self)
      refine ⟨p :: ps, by rw [List.map_cons, D.toPys, i1, j1], by rw [PyData.canLayAll0, j2, i2]; rfl, by simp only [PyData.depthAll]; omega, ?_⟩
      rw [List.any_cons, List.any_cons, i4, j4]
  obtain ⟨ps, i1, i2, i3, i4⟩ := h1 as ha
  have e2 : inD .non (as.map (keptT n)) = some (as.any (badA n)) := by
    unfold inD
    rw [i1]
    show (if SeqAt.shaped .none && SeqAt.shaped (.list ps) then some (ps.any fun z => PyData.eqv z .none) else none) = _
    rw [if_pos, i4]
    have s1 : SeqAt.shaped (.list ps) = true := by
      have hd : (PyData.list ps).depth ≤ 64 := by simp only [PyData.depth]; omega
      unfold SeqAt.shaped
      rw [decide_eq_true hd, show (PyData.list ps).canLay0 = true from i2]; rfl
    rw [s1]; rfl
  show (if flatD .non && (as.map (keptT n)).all flatD then some (D.bl ((as.map (keptT n)).any fun y => eqF y .non)) else (match inD .non (as.map (keptT n)) with | some b => some (D.bl b) | none => none)) = _
  rw [e2]
  split
  · rename_i hf
    simp only [Bool.and_eq_true, List.all_eq_true] at hf
    have e3 : ∀ x ∈ as, badA n x = true ∧ keptT n x = .non := fun x hx => by
      have := hf.2 _ (List.mem_map.mpr ⟨x, hx, rfl⟩)
      cases hb : badA n x with
      | true => exact ⟨rfl, by unfold keptT; rw [hb]; rfl⟩
      | false =>
        obtain ⟨es, he, _⟩ := badA_f hb
        have e1 : keptT n x = .tup es := by unfold keptT; rw [hb, he]; rfl
        rw [e1] at this; cases this
    cases as with
    | nil => simp at hl
    | cons x xs =>
      obtain ⟨a1, a2⟩ := e3 x List.mem_cons_self
      rw [List.map_cons, List.any_cons, List.any_cons, a1, a2]
      rfl
  · rfl
end
end Q

namespace Q
open PySem L2 PySem.Spec
theorem keptT_good {n : Nat} {r : D} (h : badA n r = false) : keptT n r = aT (askN r) := by
  obtain ⟨es, he, _, _, h4, _⟩ := badA_f h
  have e1 : keptT n r = .tup es := by unfold keptT; rw [h, he]; rfl
  rw [e1]; unfold aT; rw [← h4]
theorem keptT_sh {n : Nat} {r : D} : (keptT n r).noSh = true := by
  cases h : badA n r with
  | true => unfold keptT; rw [h]; rfl
  | false => rw [keptT_good h]; exact aT_sh _
theorem fault_nn {W : List (List Nat)} {A : List (List (Option Nat))} {x : D} (h : faultO W A = some x) : ap1 .ntN ((some x).getD D.non) = some (.bl true) := by
  have key : ∃ ds, x = .tup ds := by
    have h1 : ∀ x, fa1 W = some x → ∃ ds, x = .tup ds := fun x hx => by
      obtain ⟨i, _, h⟩ := List.exists_of_findSome?_eq_some hx
      obtain ⟨j, _, h⟩ := List.exists_of_findSome?_eq_some h
      split at h <;> simp only [Option.some.injEq, reduceCtorEq] at h
      exact ⟨_, h.symm⟩
    have h2 : ∀ x, fa2 W = some x → ∃ ds, x = .tup ds := fun x hx => by
      obtain ⟨i, _, h⟩ := List.exists_of_findSome?_eq_some hx
      obtain ⟨j, _, h⟩ := List.exists_of_findSome?_eq_some h
      obtain ⟨j, _, h⟩ := List.exists_of_findSome?_eq_some h
      split at h <;> simp only [Option.some.injEq, reduceCtorEq] at h
      exact ⟨_, h.symm⟩
    have h3 : ∀ x, fa3 A = some x → ∃ ds, x = .tup ds := fun x hx => by
      obtain ⟨i, _, h⟩ := List.exists_of_findSome?_eq_some hx
      split at h <;> simp only [Option.some.injEq, reduceCtorEq] at h
      exact ⟨_, h.symm⟩
    unfold faultO at h
    cases e1 : fa1 W with
    | some y => rw [e1] at h; cases h; exact h1 _ e1
    | none =>
      rw [e1] at h
      cases e2 : fa2 W with
      | some y => rw [e2] at h; cases h; exact h2 _ e2
      | none =>
        rw [e2] at h
        exact h3 _ (by simpa using h)
  obtain ⟨ds, rfl⟩ := key
  rfl
theorem if0_nx {V : EnvQ} {L L1 : Lcs} {c : E} {a : Ss} (h : rdW V c (fun L => den V c L) L = .ok (.bl false, L1)) : runS V (.ifs c a .nil) L = .nx L1 := by
  rw [run_ifs, h]
  exact runs_nil V L1
section
variable {T : Tab} {G : Str → Option D} {N0 m k : Nat} {d : D}
structure StFns (T : Tab) : Prop where
  lst : Is_is_list T
  who : Is_is_whole T
  num : Is_is_number T
  row : Is_is_row T
  tol : Is_kept_tolls T
  frm : Is_kept_form T
  fau : Is_fault_of T
  kep : Is_kept_store T
def formD (d : D) : D := match formO d with
  | none => .non
  | some (W, A) => fD2 W A
theorem okR {n : Nat} {r : D} : (rowB n r && (match r.els with | none => false | some es => es.all numB)) = !badR n r := by
  unfold rowB badR
  cases r.els with
  | none => rfl
  | some es => simp
theorem kept_form_ok (h : StFns T) (a : Ar (k + 3) d) : (envN T G N0 (m + 4)).call (Str.ofString "kept_form") [d] = .ok (formD d, []) := by
  rw [h.frm.call]
  have c0 : den (envN T G N0 (m + 3)) (.call (Str.ofString "is_row") [] (.cons (.p (.var 0)) (.cons (.p (.int 2)) .nil))) [some d, none, none, none, none, none] = .ok (.bl (rowB 2 d), [some d, none, none, none, none, none]) := calF h.row (a_bor rfl (a_val (keepD (d := nD 2) rfl rfl) a_end)) (isrow_ok h.row h.lst a.fz) rfl (avB rfl a.fz (avV rfl avE)) rfl rfl
  have bad : rowB 2 d = false → formO d = none → retF [] (runSs (envN T G N0 (m + 3)) bd_kept_form ([d].map some ++ List.replicate (6 - [d].length) none)) = .ok (formD d, []) := fun h1 h2 => by
    rw [h1] at c0
    have e2 : formD d = .non := by unfold formD; rw [h2]
    rw [e2]
    exact ret0 (q_ifR (x_orG (k1 := true) (k2 := false) (x_notR (k := false) (rdE (h := c0))) fun z => by cases z) (q_ret (keepD rfl rfl)))
  cases he : d.els with
  | none => exact bad (by unfold rowB; rw [he]) (by unfold formO; rw [he])
  | some ds =>
    match ds, he with
    | [], he => exact bad (by unfold rowB; rw [he]; rfl) (by unfold formO; rw [he])
    | [_], he => exact bad (by unfold rowB; rw [he]; rfl) (by unfold formO; rw [he])
    | _ :: _ :: _ :: _, he => exact bad (by unfold rowB; rw [he]; simp) (by unfold formO; rw [he])
    | [w, b], he =>
      have er : rowB 2 d = true := by unfold rowB; rw [he]; rfl
      rw [er] at c0
      have ef : formO d = form1 w b := by unfold formO; rw [he]
      have aw := (a.els he).2 w (by simp)
      have ab := (a.els he).2 b (by simp)
      have pw : ∀ {L : Lcs}, L[0]? = some (some d) → pur (envN T G N0 (m + 3)).G (.o2 .ix (.var 0) (.int 0)) L = some w := fun hL => p_ix (p_var hL) he (i := 0) rfl rfl
      have pb : ∀ {L : Lcs}, L[0]? = some (some d) → pur (envN T G N0 (m + 3)).G (.o2 .ix (.var 0) (.int 1)) L = some b := fun hL => p_ix (p_var hL) he (i := 1) rfl rfl
      have c1 : den (envN T G N0 (m + 3)) (.call (Str.ofString "is_list") [] (.cons (.p (.o2 .ix (.var 0) (.int 0))) .nil)) [some d, none, none, none, none, none] = .ok (.bl w.els.isSome, [some d, none, none, none, none, none]) := calF h.lst (a_val (keepD (pw rfl) aw.no) a_end) (islist_ok h.lst) rfl (avV aw.fz avE) rfl rfl
      have c2 : den (envN T G N0 (m + 3)) (.call (Str.ofString "is_list") [] (.cons (.p (.o2 .ix (.var 0) (.int 1))) .nil)) [some d, none, none, none, none, none] = .ok (.bl b.els.isSome, [some d, none, none, none, none, none]) := calF h.lst (a_val (keepD (pb rfl) ab.no) a_end) (islist_ok h.lst) rfl (avV ab.fz avE) rfl rfl
      have cc := x_orG (x_notR (rdE (h := c0))) (fun _ => x_orG (x_notR (rdE (h := c1))) fun _ => x_notR (rdE (h := c2)))
      have bad2 : (w.els.isSome && b.els.isSome) = false → retF [] (runSs (envN T G N0 (m + 3)) bd_kept_form ([d].map some ++ List.replicate (6 - [d].length) none)) = .ok (formD d, []) := fun hz => by
        have e2 : formD d = .non := by
          unfold formD; rw [ef]; unfold form1
          cases hw : w.els with
          | none => rfl
          | some ws =>
            cases hb : b.els with
            | none => rfl
            | some as => rw [hw, hb] at hz; cases hz
        rw [e2]
        have hk : ((!true) || ((!w.els.isSome) || (!b.els.isSome))) = true := by
          cases hw : w.els.isSome <;> cases hb : b.els.isSome <;> first | rfl | (rw [hw, hb] at hz; cases hz)
        rw [hk] at cc
        exact ret0 (q_ifR cc (q_ret (keepD rfl rfl)))
      cases hw : w.els with
      | none => exact bad2 (by rw [hw]; rfl)
      | some ws =>
        cases hb : b.els with
        | none => exact bad2 (by rw [hw, hb]; rfl)
        | some as =>
          rw [hw, hb] at cc
          have ef2 : formO d = form2 ws as := by rw [ef]; unfold form1; rw [hw, hb]
          have aws := (aw.els hw).2
          have abs := (ab.els hb).2
          have lw := (aw.els hw).1
          have lb := (ab.els hb).1
          refine fr_ret0 (I := fun _ => True) ?_
          let L1 : Lcs := [some d, some (nD ws.length), none, none, none, none]
          have e3 : FR (runSs (envN T G N0 (m + 3)) (match bd_kept_form with | .cons _ (.cons _ ss) => ss | _ => .nil) L1) (some (formD d)) (fun _ => True) := by
            have c3 : pur (envN T G N0 (m + 3)).G (.or (.o2 .eq (.var 1) (.int 0)) (.o2 .eq (.o1 .len (.o2 .ix (.var 0) (.int 1))) (.int 0))) L1 = some (.bl (decide (ws.length = 0) || decide (as.length = 0))) := p_or (eqN (a := ws.length) (b := 0) rfl rfl) fun _ => eqN (a := as.length) (b := 0) (p_len (pb rfl) hb) rfl
            have e0 : (decide (ws.length = 0) || decide (as.length = 0)) = (ws.isEmpty || as.isEmpty) := by cases ws <;> cases as <;> rfl
            rw [e0] at c3
            refine fr_cut (I := fun L => L = L1) (fr_if (k := ws.isEmpty || as.isEmpty) (d := .non) (L1 := L1) (rdP c3) (fun _ => q_ret (keepD rfl rfl)) (fun _ => rfl)) (fun x hx => ?_) (fun hn L2 hL2 => ?_)
            · split at hx
              · rename_i hk
                cases hx
                unfold formD; rw [ef2]; unfold form2; rw [if_pos hk]
              · cases hx
            · subst hL2
              have hemp : ¬ (ws.isEmpty || as.isEmpty) = true := fun z => by rw [if_pos z] at hn; cases hn
              have hlc : den (envN T G N0 (m + 3)) (.lc [4] (.nm 4) (.e (.p (.o2 .ix (.var 0) (.int 0)))) .nil (.and (.call (Str.ofString "is_row") [] (.cons (.p (.var 4)) (.cons (.p (.var 1)) .nil))) (.sq .all (.lc [5] (.nm 5) (.e (.p (.var 4))) .nil (.call (Str.ofString "is_number") [] (.cons (.p (.var 5)) .nil)))))) L1 = .ok (.lst true (ws.map fun r => D.bl (!badR ws.length r)), L1) := by
                refine lc_all id (fun r => D.bl (!badR ws.length r)) ws (L1 := L1) ?_ (fun r hr => ⟨[some d, some (nD ws.length), none, none, some r, none], rfl, rfl, ?_⟩) rfl
                · rw [List.map_id, src_e, keepD (pw rfl) aw.no]
                  simp only [seqF, aw.fz, hw]
                · have ar := aws r hr
                  have k1 : den (envN T G N0 (m + 3)) (.call (Str.ofString "is_row") [] (.cons (.p (.var 4)) (.cons (.p (.var 1)) .nil))) [some d, some (nD ws.length), none, none, some r, none] = .ok (.bl (rowB ws.length r), [some d, some (nD ws.length), none, none, some r, none]) := calF h.row (a_bor rfl (a_bor rfl a_end)) (isrow_ok h.row h.lst ar.fz) rfl (avB rfl ar.fz (av1 rfl rfl)) rfl rfl
                  rw [← okR]
                  refine x_andG (rdE (h := k1)) fun hk => ?_
                  cases hre : r.els with
                  | none => unfold rowB at hk; rw [hre] at hk; cases hk
                  | some es =>
                    refine rdE (h := x_all (f := numB) (xs := es) (b := true) rfl (lc_all id (fun x => D.bl (numB x)) es (src_Ar rfl ar hre) (fun x hx => ⟨[some d, some (nD ws.length), none, none, some r, some x], rfl, rfl, ?_⟩) rfl))
                    have ax := (ar.els hre).2 x hx
                    exact calF h.num (a_bor rfl a_end) (isnum_ok h.num h.who ax.fz) rfl (av1 rfl ax.fz) rfl rfl
              have c4 := x_notR (rdE (h := x_all rfl hlc))
              have e4 : (!(ws.all fun r => !badR ws.length r)) = ws.any (badR ws.length) := by
                rw [List.not_all_eq_any_not]
                exact congrArg (fun f => ws.any f) (funext fun r => Bool.not_not _)
              rw [e4] at c4
              refine fr_cut (I := fun L => L = L1) (fr_if (k := ws.any (badR ws.length)) (d := .non) (L1 := L1) c4 (fun _ => q_ret (keepD rfl rfl)) (fun _ => rfl)) (fun x hx => ?_) (fun hn2 L2 hL2 => ?_)
              · split at hx
                · rename_i hk
                  cases hx
                  unfold formD; rw [ef2]; unfold form2; rw [if_neg hemp, if_pos hk]
                · cases hx
              · subst hL2
                have hbad : ¬ ws.any (badR ws.length) = true := fun z => by rw [if_pos z] at hn2; cases hn2
                have hgood : ws.any (badR ws.length) = false := by simpa using hbad
                let L3 : Lcs := [some d, some (nD ws.length), some (.lst true (as.map (keptT ws.length))), none, none, none]
                have hlc2 : den (envN T G N0 (m + 3)) (.lc [3] (.nm 3) (.e (.p (.o2 .ix (.var 0) (.int 1)))) .nil (.call (Str.ofString "kept_tolls") [] (.cons (.p (.var 1)) (.cons (.p (.var 3)) .nil)))) L1 = .ok (.lst true (as.map (keptT ws.length)), L1) := by
                  refine lc_all id (keptT ws.length) as (L1 := L1) ?_ (fun r hr => ⟨[some d, some (nD ws.length), none, some r, none, none], rfl, rfl, ?_⟩) rfl
                  · rw [List.map_id, src_e, keepD (pb rfl) ab.no]
                    simp only [seqF, ab.fz, hb]
                  · refine calF h.tol (a_bor rfl (a_bor rfl a_end)) (kept_tolls_ok (m := m) h.tol h.row h.lst h.num h.who (abs r hr)) rfl (avB rfl rfl (av1 rfl (abs r hr).fz)) rfl ?_
                    rw [keptT_sh]; rfl
                refine fr_pre (L1 := L3) (asgE hlc2) ?_
                have hpos : 0 < as.length := by
                  cases as with
                  | nil => simp at hemp
                  | cons _ _ => simp
                have c5 : pur (envN T G N0 (m + 3)).G (.o2 .isin .non (.var 2)) L3 = some (.bl (as.any (badA ws.length))) := (pur2 (d := .non) (e := .lst true (as.map (keptT ws.length))) rfl rfl).trans (none_in abs hpos)
                refine fr_cut (I := fun L => L = L3) (fr_if (k := as.any (badA ws.length)) (d := .non) (L1 := L3) (rdP c5) (fun _ => q_ret (keepD rfl rfl)) (fun _ => rfl)) (fun x hx => ?_) (fun hn3 L2 hL2 => ?_)
                · split at hx
                  · rename_i hk
                    cases hx
                    unfold formD; rw [ef2]; unfold form2; rw [if_neg hemp, if_neg hbad, if_pos hk]
                  · cases hx
                · subst hL2
                  have hbad3 : ¬ as.any (badA ws.length) = true := fun z => by rw [if_pos z] at hn3; cases hn3
                  have hgood3 : as.any (badA ws.length) = false := by simpa using hbad3
                  have efin : formD d = fD2 (ws.map rowN) (as.map askN) := by unfold formD; rw [ef2]; unfold form2; rw [if_neg hemp, if_neg hbad, if_neg hbad3]
                  have hlc3 : den (envN T G N0 (m + 3)) (.lc [4] (.nm 4) (.e (.p (.o2 .ix (.var 0) (.int 0)))) .nil (.sq .tuple (.p (.var 4)))) L3 = .ok (.lst true (ws.map fun r => tL (rowN r)), L3) := by
                    refine lc_all id (fun r => tL (rowN r)) ws (L1 := L3) ?_ (fun r hr => ⟨[some d, some (nD ws.length), some (.lst true (as.map (keptT ws.length))), none, some r, none], rfl, rfl, ?_⟩) rfl
                    · rw [List.map_id, src_e, keepD (pw rfl) aw.no]
                      simp only [seqF, aw.fz, hw]
                    · obtain ⟨es, h1, _, _, h4, _⟩ := badR_f (n := ws.length) (r := r) (by simpa using List.any_eq_false.mp hgood r hr)
                      rw [h4] at h1
                      exact x_sqTup rfl h1 (noOwnN _)
                  have ew : wT (ws.map rowN) = .tup (ws.map fun r => tL (rowN r)) := by unfold wT; rw [List.map_map]; rfl
                  have ea : aTs (as.map askN) = .tup (as.map (keptT ws.length)) := by
                    unfold aTs; rw [List.map_map]
                    refine congrArg D.tup (List.map_congr_left fun r hr => ?_)
                    exact (keptT_good (by simpa using List.any_eq_false.mp hgood3 r hr)).symm
                  rw [efin]
                  unfold fD2
                  rw [ew, ea]
                  exact fr_rt (q_ret (x_tup (q_cons (x_sqTupE rfl hlc3 rfl) (q_cons (x_sqTupE rfl (x_mv (i := 2) rfl) rfl) q_end))))
          exact fr_pre (L1 := [some d, none, none, none, none, none]) (if0_nx cc) (fr_pre (L1 := L1) (asgE (keepD (p_len (pw rfl) hw) rfl)) e3)
theorem kept_store_ok (h : StFns T) (a : Ar (k + 3) d) : (envN T G N0 (m + 5)).call (Str.ofString "kept_store") [d] = .ok (if isStB d = true then formD d else .non, []) := by
  rw [h.kep.call]
  have c0 : den (envN T G N0 (m + 4)) (.call (Str.ofString "kept_form") [] (.cons (.p (.var 0)) .nil)) [some d, none] = .ok (formD d, [some d, none]) := by
    refine calF h.frm (a_bor rfl a_end) (kept_form_ok h a) rfl (av1 rfl a.fz) rfl ?_
    have : (formD d).noSh = true := by unfold formD; split; rfl; exact fD2_sh _ _
    rw [this]; rfl
  refine ret0 (q_asg c0 ?_) (L := [some d, some (formD d)])
  cases hf : formO d with
  | none =>
    have e1 : formD d = .non := by unfold formD; rw [hf]
    have e2 : isStB d = false := by unfold isStB; rw [hf]
    rw [e1, e2]
    exact q_ret (x_ifT (x_orG (k1 := true) (k2 := true) (rdP rfl) fun z => by cases z) (keepD rfl rfl))
  | some p =>
    obtain ⟨W, A⟩ := p
    have e1 : formD d = fD2 W A := by unfold formD; rw [hf]
    have e2 : isStB d = (faultO W A).isNone := by unfold isStB; rw [hf]
    rw [e1, e2]
    obtain ⟨w, b, ws, as, F⟩ := form_inv hf
    have lw : W.length ≤ 1000 := by
      have aw := (a.els F.e).2 w (by simp)
      have := (aw.els F.we).1
      have := F.rw.len
      omega
    have c1 : den (envN T G N0 (m + 4)) (.call (Str.ofString "fault_of") [] (.cons (.p (.var 1)) .nil)) [some d, some (fD2 W A)] = .ok (faultD W A, [some d, some (fD2 W A)]) := by
      refine calF h.fau (a_bor rfl a_end) (fault_ok h.fau F.dw lw) rfl (av1 rfl (fD2_fz W A)) rfl ?_
      rw [faultO_sh]; rfl
    have hN : ap1 .ntN (faultD W A) = some (.bl (!(faultO W A).isNone)) := by
      unfold faultD
      cases hx : faultO W A with
      | none => rfl
      | some x => exact fault_nn hx
    have c2 : den (envN T G N0 (m + 4)) (.o1 .ntN (.call (Str.ofString "fault_of") [] (.cons (.p (.var 1)) .nil))) [some d, some (fD2 W A)] = .ok (.bl (!(faultO W A).isNone), [some d, some (fD2 W A)]) := by
      rw [den_o1, rdE (h := c1)]
      simp only [Res.bind, hN, Res.of]
    have cc : rdW (envN T G N0 (m + 4)) _ _ [some d, some (fD2 W A)] = _ := x_orG (k1 := false) (rdP (p := .o1 .isN (.var 1)) rfl) fun _ => rdE (h := c2)
    have hno : (fD2 W A).noOwn = true := no_of_fz (fD2_fz W A)
    cases hx : (faultO W A).isNone with
    | true => rw [hx] at cc; exact q_ret (x_ifF cc (keepD rfl hno))
    | false => rw [hx] at cc; exact q_ret (x_ifT cc (keepD rfl rfl))
end
end Q

namespace Q
open PySem L2 PySem.Spec
section
variable {T : Tab} {G : Str → Option D} {N0 m k : Nat} {d : D}
theorem formD_sh (d : D) : (formD d).noSh = true := by unfold formD; split; rfl; exact fD2_sh _ _
theorem form_le {W : List (List Nat)} {A : List (List (Option Nat))} (a : Ar (k + 3) d) (hf : formO d = some (W, A)) : W.length ≤ 1000 ∧ ∀ r ∈ W, r.length = W.length := by
  obtain ⟨w, b, ws, as, F⟩ := form_inv hf
  have aw := (a.els F.e).2 w (by simp)
  have := (aw.els F.we).1
  have := F.rw.len
  exact ⟨by omega, F.dw⟩
theorem store_fault_ok (h : StFns T) (hs : Is_store_fault T) (a : Ar (k + 3) d) : (envN T G N0 (m + 5)).call (Str.ofString "store_fault") [d] = .ok (sfD d, []) := by
  rw [hs.call]
  have c0 : den (envN T G N0 (m + 4)) (.call (Str.ofString "kept_form") [] (.cons (.p (.var 0)) .nil)) [some d, none] = .ok (formD d, [some d, none]) := by
    refine calF h.frm (a_bor rfl a_end) (kept_form_ok h a) rfl (av1 rfl a.fz) rfl ?_
    rw [formD_sh]; rfl
  refine ret0 (q_asg c0 ?_) (L := [some d, some (formD d)])
  cases hf : formO d with
  | none =>
    have e1 : formD d = .non := by unfold formD; rw [hf]
    have e2 : sfD d = sForm := by unfold sfD; rw [hf]
    rw [e1, e2]
    exact q_ret (x_ifT (rdP rfl) (x_tup (q_cons (keepD rfl rfl) q_end)))
  | some p =>
    obtain ⟨W, A⟩ := p
    have e1 : formD d = fD2 W A := by unfold formD; rw [hf]
    have e2 : sfD d = faultD W A := by unfold sfD; rw [hf]
    rw [e1, e2]
    obtain ⟨lw, dw⟩ := form_le a hf
    refine q_ret (x_ifF (rdP rfl) (calF h.fau (a_bor rfl a_end) (fault_ok h.fau dw lw) rfl (av1 rfl (fD2_fz W A)) rfl ?_))
    rw [faultO_sh]; rfl
theorem is_store_ok (h : StFns T) (hs : Is_is_store T) (a : Ar (k + 3) d) : (envN T G N0 (m + 6)).call (Str.ofString "is_store") [d] = .ok (.bl (isStB d), []) := by
  rw [hs.call]
  have c0 : den (envN T G N0 (m + 5)) (.call (Str.ofString "kept_store") [] (.cons (.p (.var 0)) .nil)) [some d] = .ok (if isStB d = true then formD d else .non, [some d]) := by
    refine calF h.kep (a_bor rfl a_end) (kept_store_ok h a) rfl (av1 rfl a.fz) rfl ?_
    have : (if isStB d = true then formD d else D.non).noSh = true := by split; exact formD_sh d; rfl
    rw [this]; rfl
  have hN : ap1 .ntN (if isStB d = true then formD d else D.non) = some (.bl (isStB d)) := by
    cases hb : isStB d with
    | false => rfl
    | true =>
      unfold isStB at hb
      cases hf : formO d with
      | none => rw [hf] at hb; cases hb
      | some p => unfold formD; rw [hf]; rfl
  have c1 : den (envN T G N0 (m + 5)) (.o1 .ntN (.call (Str.ofString "kept_store") [] (.cons (.p (.var 0)) .nil))) [some d] = .ok (.bl (isStB d), [some d]) := by
    rw [den_o1, rdE (h := c0)]
    simp only [Res.bind, hN, Res.of]
  exact ret0 (L := [some d]) (q_ret c1)
/-! the law's own look -/
def partB (x : D) : Bool := match x.els with
  | none => false
  | some es => Nat.blt 0 es.length
theorem part_ok {V : EnvQ} {L : Lcs} {i : Nat} {x : D} (h : L[i]? = some (some x)) : pur V.G (.and (.o1 (.isi ["list", "tuple"]) (.var i)) (.o2 .gt (.o1 .len (.var i)) (.int 0))) L = some (.bl (partB x)) := by
  cases he : x.els with
  | none =>
    have e : partB x = false := by unfold partB; rw [he]
    have := p_and (V := V) (q := .o2 .gt (.o1 .len (.var i)) (.int 0)) (k2 := false) (p_isL h) (fun z => by rw [he] at z; cases z)
    rw [he] at this
    rw [e]; exact this
  | some es =>
    have e : partB x = Nat.blt 0 es.length := by unfold partB; rw [he]
    have := p_and (V := V) (p_isL h) (fun _ => gtN (a := es.length) (b := 0) (q := .int 0) (p_len (p_var h) he) rfl)
    rw [he] at this
    rw [e]; exact this
theorem rowG {V : EnvQ} {L : Lcs} {f : D → Bool} {n s w : Nat} {r wd : D} {ws : List D} {e3 : E} (h : L[s]? = some (some r)) (hw : L[w]? = some (some wd)) (hwe : wd.els = some ws) (h3 : ∀ es, r.els = some es → den V e3 L = .ok (.lst true (es.map fun x => D.bl (f x)), L)) (hp : isP e3 = false) :
    rdW V (.or (.p (.o1 .not (.o1 (.isi ["list", "tuple"]) (.var s)))) (.or (.p (.o2 .ne (.o1 .len (.var s)) (.o1 .len (.var w)))) (.o1 .not (.sq .all e3)))) (fun L => den V (.or (.p (.o1 .not (.o1 (.isi ["list", "tuple"]) (.var s)))) (.or (.p (.o2 .ne (.o1 .len (.var s)) (.o1 .len (.var w)))) (.o1 .not (.sq .all e3)))) L) L = .ok (.bl (match r.els with | none => true | some es => !(decide (es.length = ws.length) && es.all f)), L) := by
  cases he : r.els with
  | none =>
    have := x_orG (V := V) (L := L) (e1 := .p (.o1 .not (.o1 (.isi ["list", "tuple"]) (.var s)))) (e2 := .or (.p (.o2 .ne (.o1 .len (.var s)) (.o1 .len (.var w)))) (.o1 .not (.sq .all e3))) (k2 := true) (rdP (p_not (p_isL h))) (fun z => by rw [he] at z; cases z)
    rw [he] at this
    exact this
  | some es =>
    have := x_orG (V := V) (L := L) (e1 := .p (.o1 .not (.o1 (.isi ["list", "tuple"]) (.var s)))) (e2 := .or (.p (.o2 .ne (.o1 .len (.var s)) (.o1 .len (.var w)))) (.o1 .not (.sq .all e3))) (rdP (p_not (p_isL h))) (fun _ => x_orG (rdP (neN (a := es.length) (b := ws.length) (p_len (p_var h) he) (p_len (p_var hw) hwe))) fun _ => x_notR (rdE (h := x_all hp (h3 es he))))
    rw [he] at this
    rw [this]
    show Res.ok (D.bl (!true || (!decide (es.length = ws.length) || !es.all f)), L) = Res.ok (D.bl (!(decide (es.length = ws.length) && es.all f)), L)
    rw [Bool.not_and]
    rfl
theorem find_bad {b : D → Bool} {ws : List D} {x : D} (h : (ws.findSome? fun r => if b r = true then some sForm else none) = some x) : x = sForm ∧ ws.any b = true := by
  obtain ⟨r, hr, h⟩ := List.exists_of_findSome?_eq_some h
  split at h <;> simp only [Option.some.injEq, reduceCtorEq] at h
  rename_i hb
  exact ⟨h.symm, List.any_eq_true.mpr ⟨r, hr, hb⟩⟩
theorem find_good {b : D → Bool} {ws : List D} (h : (ws.findSome? fun r => if b r = true then some sForm else none) = none) : ws.any b = false := by
  rw [List.findSome?_eq_none_iff] at h
  refine List.any_eq_false.mpr fun r hr hb => ?_
  have := h r hr
  rw [if_pos hb] at this
  cases this
theorem law_fault_ok (hs : Is_l_store_fault T) (hn : Is_l_is_number T) (a : Ar (k + 3) d) (ht : ∀ w b, d.els = some [w, b] → d = .tup [w, b]) : (envN T G N0 (m + 2)).call (Str.ofString "_law_store_fault") [d] = .ok (sfD d, []) := by
  rw [hs.call]
  let L0 : Lcs := [some d, none, none, none, none, none, none, none, none, none, none, none, none]
  have bad : formO d = none → rdW (envN T G N0 (m + 1)) (match bd_l_store_fault with | .cons (.ifs c _ _) _ => c | _ => .nev) (fun L => den (envN T G N0 (m + 1)) (match bd_l_store_fault with | .cons (.ifs c _ _) _ => c | _ => .nev) L) L0 = .ok (.bl true, L0) → retF [] (runSs (envN T G N0 (m + 1)) bd_l_store_fault ([d].map some ++ List.replicate (13 - [d].length) none)) = .ok (sfD d, []) := fun h1 h2 => by
    have e2 : sfD d = sForm := by unfold sfD; rw [h1]
    rw [e2]
    exact ret0 (q_ifR h2 (q_ret (x_tup (q_cons (keepD rfl rfl) q_end))))
  cases he : d.els with
  | none =>
    refine bad (by unfold formO; rw [he]) ?_
    have := x_orG (V := envN T G N0 (m + 1)) (L := L0) (e1 := .p (.o1 .not (.o1 (.isi ["list", "tuple"]) (.var 0)))) (k2 := true) (e2 := match bd_l_store_fault with | .cons (.ifs (.or _ c) _ _) _ => c | _ => .nev) (rdP (p_not (p_isL (d := d) rfl))) (fun z => by rw [he] at z; cases z)
    rw [he] at this
    exact this
  | some ds =>
    have hlc : den (envN T G N0 (m + 1)) (.lc [11] (.nm 11) (.e (.p (.var 0))) .nil (.p (.and (.o1 (.isi ["list", "tuple"]) (.var 11)) (.o2 .gt (.o1 .len (.var 11)) (.int 0))))) L0 = .ok (.lst true (ds.map fun x => D.bl (partB x)), L0) :=
      lc_all id (fun x => D.bl (partB x)) ds (src_Ar rfl a he) (fun x hx => ⟨[some d, none, none, none, none, none, none, none, none, none, none, some x, none], rfl, rfl, keepD (part_ok rfl) rfl⟩) rfl
    have cc := x_orG (V := envN T G N0 (m + 1)) (L := L0) (e1 := .p (.o1 .not (.o1 (.isi ["list", "tuple"]) (.var 0)))) (rdP (p_not (p_isL (d := d) rfl))) (fun _ => x_orG (rdP (neN (a := ds.length) (b := 2) (q := .int 2) (p_len (p := .var 0) (d := d) rfl he) rfl)) fun _ => x_notR (rdE (h := x_all rfl hlc)))
    rw [he] at cc
    by_cases hgo : ∃ w b ws as, ds = [w, b] ∧ w.els = some ws ∧ b.els = some as ∧ 0 < ws.length ∧ 0 < as.length
    · obtain ⟨w, b, ws, as, rfl, hw, hb, pw, pb⟩ := hgo
      have dt := ht w b he
      have e1 : partB w = true := by unfold partB; rw [hw]; exact Nat.blt_eq.mpr pw
      have e2 : partB b = true := by unfold partB; rw [hb]; exact Nat.blt_eq.mpr pb
      have kz : (!(some [w, b]).isSome || (!decide ([w, b].length = 2) || !([w, b].all partB))) = false := by simp [e1, e2]
      rw [kz] at cc
      have aw := (a.els he).2 w (by simp)
      have ab := (a.els he).2 b (by simp)
      have aws := (aw.els hw).2
      have abs := (ab.els hb).2
      have lw := (aw.els hw).1
      have ef : formO d = form2 ws as := by
        have e0 : formO d = form1 w b := by unfold formO; rw [he]
        rw [e0]; unfold form1; rw [hw, hb]
      have hemp : ¬ (ws.isEmpty || as.isEmpty) = true := by
        cases ws <;> cases as <;> first | (simp at pw; done) | (simp at pb; done) | simp
      refine fr_ret0 (I := fun _ => True) (fr_pre (L1 := L0) (if0_nx cc) (fr_pre (L1 := [none, none, none, none, none, some w, some b, none, none, none, none, none, none]) (by rw [run_asg, x_mv (d := d) rfl, dt]; rfl) ?_))
      refine fr_cut (o := ws.findSome? fun r => if badR ws.length r = true then some sForm else none) (I := fun L => ∃ o1, L = [none, o1, none, none, none, some w, some b, none, none, none, none, none, none]) (fr_for (dx := id) (xs := ws) (L1 := [none, none, none, none, none, some w, some b, none, none, none, none, none, none]) (src_Ar rfl aw hw) ⟨_, rfl⟩ ?_) (fun x hx => ?_) (fun hn1 L2 hL2 => ?_)
      · rintro r hr _ ⟨o1, rfl⟩
        have ar := aws r hr
        refine ⟨[none, some r, none, none, none, some w, some b, none, none, none, none, none, none], rfl, fr_one (fr_if (L1 := [none, some r, none, none, none, some w, some b, none, none, none, none, none, none]) (k := badR ws.length r) ?_ (fun _ => q_ret (x_tup (q_cons (keepD rfl rfl) q_end))) (fun _ => ⟨_, rfl⟩))⟩
        have e5 : badR ws.length r = (match r.els with | none => true | some es => !(decide (es.length = ws.length) && es.all numB)) := by unfold badR; rfl
        rw [e5]
        refine rowG (n := 0) (f := numB) (s := 1) (w := 5) (r := r) (wd := w) (ws := ws) rfl rfl hw (fun es hes => ?_) rfl
        refine lc_all id (fun x => D.bl (numB x)) es (src_Ar rfl ar hes) (fun x hx => ⟨[none, some r, none, none, none, some w, some b, none, none, none, none, none, some x], rfl, rfl, ?_⟩) rfl
        exact calF hn (a_bor rfl a_end) (lnum_ok hn) rfl (av1 rfl ((ar.els hes).2 x hx).fz) rfl rfl
      · obtain ⟨h1, h2⟩ := find_bad hx
        rw [h1]
        unfold sfD
        have : formO d = none := by rw [ef]; unfold form2; rw [if_neg hemp, if_pos h2]
        rw [this]
      · obtain ⟨o1, rfl⟩ := hL2
        have good1 := find_good hn1
        refine fr_cut (o := as.findSome? fun r => if badA ws.length r = true then some sForm else none) (I := fun L => ∃ o2, L = [none, o1, o2, none, none, some w, some b, none, none, none, none, none, none]) (fr_for (dx := id) (xs := as) (L1 := [none, o1, none, none, none, some w, some b, none, none, none, none, none, none]) (src_Ar rfl ab hb) ⟨_, rfl⟩ ?_) (fun x hx => ?_) (fun hn2 L2 hL2 => ?_)
        · rintro r hr _ ⟨o2, rfl⟩
          have ar := abs r hr
          refine ⟨[none, o1, some r, none, none, some w, some b, none, none, none, none, none, none], rfl, fr_one (fr_if (L1 := [none, o1, some r, none, none, some w, some b, none, none, none, none, none, none]) (k := badA ws.length r) ?_ (fun _ => q_ret (x_tup (q_cons (keepD rfl rfl) q_end))) (fun _ => ⟨_, rfl⟩))⟩
          have e5 : badA ws.length r = (match r.els with | none => true | some es => !(decide (es.length = ws.length) && es.all tollB)) := by unfold badA; rfl
          rw [e5]
          refine rowG (n := 0) (f := tollB) (s := 2) (w := 5) (r := r) (wd := w) (ws := ws) rfl rfl hw (fun es hes => ?_) rfl
          refine lc_all id (fun x => D.bl (tollB x)) es (src_Ar rfl ar hes) (fun x hx => ⟨[none, o1, some r, none, none, some w, some b, none, none, none, some x, none, none], rfl, rfl, ?_⟩) rfl
          have cn : den (envN T G N0 (m + 1)) (.call (Str.ofString "_law_is_number") [] (.cons (.p (.var 10)) .nil)) [none, o1, some r, none, none, some w, some b, none, none, none, some x, none, none] = .ok (.bl (numB x), [none, o1, some r, none, none, some w, some b, none, none, none, some x, none, none]) := calF hn (a_bor rfl a_end) (lnum_ok hn) rfl (av1 rfl ((ar.els hes).2 x hx).fz) rfl rfl
          cases x with
          | non => exact x_orG (k1 := true) (k2 := true) (rdP rfl) fun z => by cases z
          | _ => exact x_orG (k1 := false) (rdP rfl) fun _ => rdE (h := cn)
        · obtain ⟨h1, h2⟩ := find_bad hx
          rw [h1]
          unfold sfD
          have : formO d = none := by rw [ef]; unfold form2; rw [if_neg hemp, if_neg (by rw [good1]; exact Bool.false_ne_true), if_pos h2]
          rw [this]
        · obtain ⟨o2, rfl⟩ := hL2
          have good2 := find_good hn2
          have ef3 : formO d = some (ws.map rowN, as.map askN) := by rw [ef]; unfold form2; rw [if_neg hemp, if_neg (by rw [good1]; exact Bool.false_ne_true), if_neg (by rw [good2]; exact Bool.false_ne_true)]
          have e6 : sfD d = faultD (ws.map rowN) (as.map askN) := by unfold sfD; rw [ef3]
          rw [e6]
          have hl : (ws.map rowN).length = ws.length := List.length_map _
          have hbt : b = .tup as ∨ b = .lst false as := by
            rcases ab.case with ⟨es, j, h1, _, _, _, h5⟩ | ⟨h1, _⟩
            · rw [hb] at h1; cases h1; exact h5
            · rw [hb] at h1; cases h1
          refine fr_pre (L1 := mkL o1 (some (iL true (List.range (ws.map rowN).length))) none none none none o2 w b) (asgE (x_lr1 (n := (ws.map rowN).length) (keepD ((p_len (d := w) rfl hw).trans (by rw [hl])) rfl) (by omega))) ?_
          exact f4L hw (rows_of good1) (by rw [hl]; exact rows_dim good1) ab.fz hbt (asks_of good2) (fun x hx => (abs x hx).fz) ⟨o1, true, none, none, none, none, o2, rfl⟩ rfl
    · have hk : (!(some ds).isSome || (!decide (ds.length = 2) || !(ds.all partB))) = true ∧ formO d = none := by
        match ds, he, hgo with
        | [], he, _ => exact ⟨rfl, by unfold formO; rw [he]⟩
        | [_], he, _ => exact ⟨rfl, by unfold formO; rw [he]⟩
        | _ :: _ :: _ :: _, he, _ => exact ⟨by simp, by unfold formO; rw [he]⟩
        | [w, b], he, hgo =>
          have ef : formO d = form1 w b := by unfold formO; rw [he]
          rw [ef]
          unfold form1
          cases hw : w.els with
          | none =>
            have : partB w = false := by unfold partB; rw [hw]
            exact ⟨by simp [this], rfl⟩
          | some ws =>
            cases hb : b.els with
            | none =>
              have : partB b = false := by unfold partB; rw [hb]
              exact ⟨by simp [this], rfl⟩
            | some as =>
              cases ws with
              | nil =>
                have : partB w = false := by unfold partB; rw [hw]; rfl
                exact ⟨by simp [this], rfl⟩
              | cons w1 ws =>
                cases as with
                | nil =>
                  have : partB b = false := by unfold partB; rw [hb]; rfl
                  exact ⟨by simp [this], rfl⟩
                | cons a1 as => exact absurd ⟨w, b, _, _, rfl, hw, hb, by simp, by simp⟩ hgo
      rw [hk.1] at cc
      exact bad hk.2 cc
end
end Q

namespace Q
open PySem L2 PySem.Spec
/-! ## square lists of numbers -/
structure Dim (n : Nat) (W : List (List Nat)) : Prop where
  len : W.length = n
  row : ∀ r ∈ W, r.length = n
def set2 (W : List (List Nat)) (i j v : Nat) : List (List Nat) := W.set i ((W.getD i []).set j v)
def mD (W : List (List Nat)) : D := .lst true (W.map (iL true))
theorem Dim.at {n i : Nat} {W : List (List Nat)} (h : Dim n W) (hi : i < n) : (W.getD i []).length = n := getD_len h.row (by rw [h.len]; exact hi)
theorem Dim.set2 {n i j v : Nat} {W : List (List Nat)} (h : Dim n W) (hi : i < n) : Dim n (set2 W i j v) := by
  refine ⟨by unfold Q.set2; rw [List.length_set]; exact h.len, fun r hr => ?_⟩
  unfold Q.set2 at hr
  rcases List.mem_or_eq_of_mem_set hr with hr | rfl
  · exact h.row r hr
  · rw [List.length_set]; exact h.at hi
theorem g2_set2 {n i j v a b : Nat} {W : List (List Nat)} (h : Dim n W) (hi : i < n) (hj : j < n) : g2 (set2 W i j v) a b = if a = i ∧ b = j then v else g2 W a b := by
  have hl := h.at hi
  unfold g2 set2
  by_cases ha : a = i
  · subst ha
    have e1 : (W.set a ((W.getD a []).set j v)).getD a [] = (W.getD a []).set j v := by
      rw [List.getD_eq_getElem?_getD, List.getElem?_set_self (by rw [h.len]; exact hi)]; rfl
    rw [e1]
    by_cases hb : b = j
    · subst hb
      rw [if_pos ⟨rfl, rfl⟩, List.getD_eq_getElem?_getD, List.getElem?_set_self (by rw [hl]; exact hj)]; rfl
    · rw [if_neg fun z => hb z.2, List.getD_eq_getElem?_getD, List.getElem?_set_ne (Ne.symm hb), ← List.getD_eq_getElem?_getD]
  · rw [if_neg fun z => ha z.1]
    have e1 : (W.set i ((W.getD i []).set j v)).getD a [] = W.getD a [] := by
      rw [List.getD_eq_getElem?_getD, List.getElem?_set_ne (Ne.symm ha), ← List.getD_eq_getElem?_getD]
    rw [e1]
theorem rows_mD (b : Bool) (W : List (List Nat)) : Rows (W.map (iL b)) W := ⟨by rw [List.map_map]; rfl⟩
theorem mD_sh (W : List (List Nat)) : (mD W).noSh = true := by unfold mD; rw [D.noSh, noShs_map iL_sh]; rfl
def mF (W : List (List Nat)) : D := .lst false (W.map (iL false))
theorem mD_fz (W : List (List Nat)) : (mD W).fz = mF W := by
  unfold mD mF
  rw [D.fz, fzs_eq, List.map_map]
  exact congrArg _ (List.map_congr_left fun x _ => iL_fz true x)
theorem mF_fz (W : List (List Nat)) : (mF W).fz = mF W := by unfold mF; rw [D.fz, fzs_map (fun x => iL_fz false x)]
def oL (b : Bool) (a : List (Option Nat)) : D := .lst b (a.map oD)
theorem oL_fz (b : Bool) (a : List (Option Nat)) : (oL b a).fz = oL false a := by unfold oL; rw [D.fz, fzs_map oD_fz]
theorem oL_sh (a : List (Option Nat)) : (oL true a).noSh = true := by unfold oL; rw [D.noSh, noShs_map oD_sh]; rfl
theorem Rows.rn {ws : List D} {W : List (List Nat)} (h : Rows ws W) : ws.map rowN = W := by
  refine List.ext_getElem? fun i => ?_
  rw [List.getElem?_map]
  by_cases hi : i < W.length
  · obtain ⟨r, h1, h2⟩ := h.get hi
    rw [h1]
    show some (rowN r) = _
    unfold rowN
    rw [h2]
    show some (((W.getD i []).map nD).map numN) = _
    rw [List.map_map]
    have : numN ∘ nD = id := by funext x; show ((x : Int)).toNat = x; exact Int.toNat_natCast x
    rw [this, List.map_id]
    simp [hi]
  · rw [List.getElem?_eq_none (by rw [h.len]; omega), List.getElem?_eq_none (by omega)]; rfl
section
variable {V : EnvQ} {L L1 L2 : Lcs}
theorem q_set2 {s : Nat} {p k : P} {e : E} {ss : Ss} {r : RS} {W : List (List Nat)} {n i j v : Nat} (he : den V e L = .ok (nD v, L1)) (h0 : L1[s]? = some (some (mD W))) (hp : pur V.G p L1 = some (nD i)) (hk : pur V.G k L1 = some (nD j)) (hW : Dim n W) (hi : i < n) (hj : j < n) (h2 : runSs V ss (L1.set s (some (mD (set2 W i j v)))) = r) : runSs V (.cons (.setx s [p] k e) ss) L = r := by
  refine (nx_cons ?_).trans h2
  rw [run_setx, he]
  have hwl : (W.map (iL true)).length = n := by rw [List.length_map]; exact hW.len
  have e1 : (W.map (iL true))[i]? = some (iL true (W.getD i [])) := by
    rw [List.getElem?_map, show W[i]? = some (W.getD i []) by simp [show i < W.length by rw [hW.len]; exact hi]]; rfl
  have e3 : (W.map (iL true)).set i (iL true ((W.getD i []).set j v)) = (set2 W i j v).map (iL true) := by unfold set2; rw [List.map_set]
  have e4 : ((W.getD i []).map nD).set j (nD v) = ((W.getD i []).set j v).map nD := by rw [List.map_set]
  unfold mD at h0
  simp only [Res.seq, setxRun, h0, pathInts, hp, hk, updPath, hwl, ixN_ok hi, e1, List.length_map, hW.at hi, ixN_ok hj, e4, e3, RS.of]
  rfl
end
/-! ## ways closed -/
theorem mn_eq (a b : Nat) : mn a b = min a b := by
  unfold mn
  by_cases h : b < a
  · rw [if_pos (Nat.blt_eq.mpr h)]; omega
  · rw [if_neg (fun z => h (Nat.blt_eq.mp z))]; omega
/-- ways closed up to k -/
structure Cl (n q k : Nat) (W : List (List Nat)) : Prop where
  dim : Dim n W
  dia : ∀ i, i < n → g2 W i i = 0
  pos : ∀ i j, i < n → j < n → i ≠ j → 0 < g2 W i j
  le : ∀ i j, i < n → j < n → g2 W i j ≤ q
  tri : ∀ b, b < k → ∀ i j, i < n → j < n → g2 W i j ≤ g2 W i b + g2 W b j
/-- in the midst of a turn -/
structure Mid (n k i j : Nat) (W F : List (List Nat)) : Prop where
  dim : Dim n F
  at_ : ∀ a b, a < n → b < n → g2 F a b = if a < i ∨ (a = i ∧ b < j) then mn (g2 W a b) (g2 W a k + g2 W k b) else g2 W a b
theorem Mid.step {n q k i j : Nat} {W F : List (List Nat)} (c : Cl n q k W) (h : Mid n k i j W F) (hk : k < n) (hi : i < n) (hj : j < n) : Mid n k i (j + 1) W (set2 F i j (mn (g2 F i j) (g2 F i k + g2 F k j))) := by
  have d0 := c.dia k hk
  have e1 : g2 F i j = g2 W i j := by rw [h.at_ i j hi hj, if_neg (by omega)]
  have e2 : g2 F i k = g2 W i k := by
    rw [h.at_ i k hi hk]
    split
    · rw [d0, mn_eq]; omega
    · rfl
  have e3 : g2 F k j = g2 W k j := by
    rw [h.at_ k j hk hj]
    split
    · rw [d0, mn_eq]; omega
    · rfl
  refine ⟨h.dim.set2 hi, fun a b ha hb => ?_⟩
  rw [g2_set2 h.dim hi hj, e1, e2, e3]
  by_cases hab : a = i ∧ b = j
  · obtain ⟨rfl, rfl⟩ := hab
    rw [if_pos ⟨rfl, rfl⟩, if_pos (by omega)]
  · rw [if_neg hab, h.at_ a b ha hb]
    by_cases h1 : a < i ∨ (a = i ∧ b < j)
    · rw [if_pos h1, if_pos (by omega)]
    · rw [if_neg h1, if_neg (by omega)]
theorem Mid.row {n k i : Nat} {W F : List (List Nat)} (h : Mid n k i n W F) : Mid n k (i + 1) 0 W F := by
  refine ⟨h.dim, fun a b ha hb => ?_⟩
  rw [h.at_ a b ha hb]
  by_cases h1 : a < i ∨ (a = i ∧ b < n)
  · rw [if_pos h1, if_pos (by omega)]
  · rw [if_neg h1, if_neg (by omega)]
theorem Mid.start {n k : Nat} {W : List (List Nat)} (h : Dim n W) : Mid n k 0 0 W W := ⟨h, fun a b _ _ => by rw [if_neg (by omega)]⟩
theorem Mid.done {n q k : Nat} {W F : List (List Nat)} (c : Cl n q k W) (h : Mid n k n 0 W F) (hk : k < n) : Cl n q (k + 1) F := by
  have at_ : ∀ a b, a < n → b < n → g2 F a b = min (g2 W a b) (g2 W a k + g2 W k b) := fun a b ha hb => by rw [h.at_ a b ha hb, if_pos (by omega), mn_eq]
  have dk := c.dia k hk
  refine ⟨h.dim, fun i hi => ?_, fun i j hi hj hij => ?_, fun i j hi hj => ?_, fun b hb i j hi hj => ?_⟩
  · rw [at_ i i hi hi, c.dia i hi]; omega
  · rw [at_ i j hi hj]
    have p1 := c.pos i j hi hj hij
    by_cases hik : i = k
    · subst hik; omega
    · have := c.pos i k hi hk hik; omega
  · rw [at_ i j hi hj]; have := c.le i j hi hj; omega
  · by_cases hbk : b = k
    · subst hbk
      rw [at_ i j hi hj, at_ i b hi hk, at_ b j hk hj, dk]; omega
    · have hbn : b < n := by omega
      have hbk' : b < k := by omega
      rw [at_ i j hi hj, at_ i b hi hbn, at_ b j hbn hj]
      have t1 := c.tri b hbk' i j hi hj
      have t2 := c.tri b hbk' i k hi hk
      have t3 := c.tri b hbk' k j hk hj
      omega
section
variable {T : Tab} {G : Str → Option D} {N0 m : Nat}
theorem closed_ok (h : Is_l_closed T) {n q : Nat} {W : List (List Nat)} (c : Cl n q 0 W) (hn : n ≤ 1000) : ∃ F, Cl n q n F ∧ (envN T G N0 (m + 1)).call (Str.ofString "_law_closed") [mF W] = .ok (mD F, []) := by
  have hl := c.dim.len
  let mk (ob of o4 o5 : Option D) : Lcs := [some (mF W), ob, some (nD n), of, o4, o5, none]
  let V := envN T G N0 m
  obtain ⟨L', e1, ob, F, o4, o5, rfl, cF⟩ := forRun_ix (tg := .nm 1) (n := n) (body := fun L => runSs V (match bd_l_closed with | .cons _ (.cons (.for_ _ _ b) _) => b | _ => .nil) L) nD
    (fun k L => ∃ ob F o4 o5, L = mk ob (some (mD F)) o4 o5 ∧ Cl n q k F) (by
      rintro k hk _ ⟨ob, F, o4, o5, rfl, cF⟩
      obtain ⟨L2, e2, F2, o4', o5', rfl, mF2⟩ := forRun_ix (tg := .nm 4) (n := n) (body := fun L => runSs V (match bd_l_closed with | .cons _ (.cons (.for_ _ _ (.cons (.for_ _ _ b) _)) _) => b | _ => .nil) L) nD
        (fun i L => ∃ F' o4 o5, L = mk (some (nD k)) (some (mD F')) o4 o5 ∧ Mid n k i 0 F F') (by
          rintro i hi _ ⟨F', o4, o5, rfl, hm⟩
          obtain ⟨L3, e3, F3, o5', rfl, m3⟩ := forRun_ix (tg := .nm 5) (n := n) (body := fun L => runSs V (match bd_l_closed with | .cons _ (.cons (.for_ _ _ (.cons (.for_ _ _ (.cons (.for_ _ _ b) _)) _)) _) => b | _ => .nil) L) nD
            (fun j L => ∃ F' o5, L = mk (some (nD k)) (some (mD F')) (some (nD i)) o5 ∧ Mid n k i j F F') (by
              rintro j hj _ ⟨F', o5, rfl, hm⟩
              refine ⟨mk (some (nD k)) (some (mD F')) (some (nD i)) (some (nD j)), mk (some (nD k)) (some (mD (set2 F' i j (mn (g2 F' i j) (g2 F' i k + g2 F' k j))))) (some (nD i)) (some (nD j)), rfl, ?_, _, _, rfl, hm.step cF hk hi hj⟩
              have hd := hm.dim
              have g : ∀ {a b : Nat} {p r : P}, a < n → b < n → pur V.G p (mk (some (nD k)) (some (mD F')) (some (nD i)) (some (nD j))) = some (nD a) → pur V.G r (mk (some (nD k)) (some (mD F')) (some (nD i)) (some (nD j))) = some (nD b) → pur V.G (.o2 .ix (.o2 .ix (.var 3) p) r) (mk (some (nD k)) (some (mD F')) (some (nD i)) (some (nD j))) = some (nD (g2 F' a b)) := fun ha hb hp hr =>
                p_g2 (wd := mD F') (ws := F'.map (iL true)) rfl rfl (rows_mD true F') hp hr (by rw [hd.len]; exact ha) (by rw [hd.at ha]; exact hb)
              exact q_set2 (keepD (minN (g hi hj rfl rfl) (addN (g hi hk rfl rfl) (g hk hj rfl rfl))) rfl) rfl rfl rfl hd hi hj q_nil) (L := mk (some (nD k)) (some (mD F')) (some (nD i)) o5) ⟨F', o5, rfl, hm⟩
          exact ⟨mk (some (nD k)) (some (mD F')) (some (nD i)) o5, mk (some (nD k)) (some (mD F3)) (some (nD i)) o5', rfl, q_for (src_rng1 (n := n) rfl (by omega)) e3 q_nil, _, _, _, rfl, m3.row⟩) (L := mk (some (nD k)) (some (mD F)) o4 o5) ⟨F, o4, o5, rfl, Mid.start cF.dim⟩
      exact ⟨mk (some (nD k)) (some (mD F)) o4 o5, mk (some (nD k)) (some (mD F2)) o4' o5', rfl, q_for (src_rng1 (n := n) rfl (by omega)) e2 q_nil, _, _, _, _, rfl, mF2.done cF hk⟩) (L := mk none (some (mD W)) none none) ⟨none, W, none, none, rfl, c⟩
  refine ⟨F, cF, ?_⟩
  rw [h.call]
  have hlc : den V (.lc [6] (.nm 6) (.e (.p (.var 0))) .nil (.sq .list (.p (.var 6)))) [some (mF W), none, none, none, none, none, none] = .ok (.lst true (W.map (iL true)), [some (mF W), none, none, none, none, none, none]) := by
    refine lc_all (iL false) (iL true) W (src_var (d := mF W) rfl (no_of_fz (mF_fz W)) (by rw [mF_fz]; rfl)) (fun x hx => ⟨[some (mF W), none, none, none, none, none, some (iL false x)], rfl, rfl, ?_⟩) rfl
    exact x_sqList (d := iL false x) rfl rfl (noOwnN x)
  exact ret0 (q_par (ds := [nD n, mD W]) (L1 := [some (mF W), none, none, none, none, none, none]) (q_cons (keepD ((p_len (d := mF W) (ds := W.map (iL false)) rfl rfl).trans (by rw [List.length_map, hl])) rfl) (q_cons hlc q_end)) rfl (q_for (src_rng1 (n := n) rfl (by omega)) e1 (q_ret (x_mv rfl))))
end
end Q

namespace Q
open PySem L2 PySem.Spec
/-! ## a store drawn -/
/-- an ask: a toll for each stand, one at least -/
structure AskOk (n q : Nat) (a : List (Option Nat)) : Prop where
  len : a.length = n
  srv : ∃ i v, i < n ∧ a[i]? = some (some v)
  le : ∀ v, some v ∈ a → v ≤ q
structure Store (n q : Nat) (W : List (List Nat)) (A : List (List (Option Nat))) : Prop where
  cl : Cl n q n W
  pos : 0 < n
  ap : 0 < A.length
  ask : ∀ a ∈ A, AskOk n q a
def stD (W : List (List Nat)) (A : List (List (Option Nat))) : D := .tup [mD W, .lst true (A.map (oL true))]
def stF (W : List (List Nat)) (A : List (List (Option Nat))) : D := .tup [mF W, .lst false (A.map (oL false))]
theorem stD_fz (W : List (List Nat)) (A : List (List (Option Nat))) : (stD W A).fz = stF W A := by
  unfold stD stF
  rw [D.fz, D.fzs, D.fzs, D.fzs, mD_fz, D.fz, fzs_eq, List.map_map]
  have : (D.fz ∘ oL true) = oL false := by funext x; exact oL_fz true x
  rw [this]
theorem stD_sh (W : List (List Nat)) (A : List (List (Option Nat))) : (stD W A).noSh = true := by
  unfold stD
  rw [D.noSh, D.noShs, D.noShs, D.noShs, mD_sh, D.noSh, noShs_map oL_sh]; rfl
/-- drawing the ways -/
structure Dr (n q i j : Nat) (W : List (List Nat)) : Prop where
  dim : Dim n W
  dia : ∀ a, a < n → g2 W a a = 0
  le : ∀ a b, a < n → b < n → g2 W a b ≤ q
  pos : ∀ a b, a < n → b < n → a ≠ b → (a < i ∨ (a = i ∧ b < j)) → 0 < g2 W a b
theorem Dr.row {n q i : Nat} {W : List (List Nat)} (h : Dr n q i n W) : Dr n q (i + 1) 0 W := ⟨h.dim, h.dia, h.le, fun a b ha hb hab z => h.pos a b ha hb hab (by omega)⟩
theorem Dr.skip {n q i : Nat} {W : List (List Nat)} (h : Dr n q i i W) : Dr n q i (i + 1) W := ⟨h.dim, h.dia, h.le, fun a b ha hb hab z => h.pos a b ha hb hab (by omega)⟩
theorem Dr.put {n q i j v : Nat} {W : List (List Nat)} (h : Dr n q i j W) (hi : i < n) (hj : j < n) (hij : i ≠ j) (hv : 0 < v ∧ v ≤ q) : Dr n q i (j + 1) (set2 W i j v) := by
  refine ⟨h.dim.set2 hi, fun a ha => ?_, fun a b ha hb => ?_, fun a b ha hb hab z => ?_⟩
  · rw [g2_set2 h.dim hi hj, if_neg (by omega)]; exact h.dia a ha
  · rw [g2_set2 h.dim hi hj]; split; exact hv.2; exact h.le a b ha hb
  · rw [g2_set2 h.dim hi hj]
    split
    · exact hv.1
    · rename_i hn
      exact h.pos a b ha hb hab (by omega)
theorem Dr.done {n q : Nat} {W : List (List Nat)} (h : Dr n q n 0 W) : Cl n q 0 W := ⟨h.dim, h.dia, fun i j hi hj hij => h.pos i j hi hj hij (by omega), h.le, fun b hb => by omega⟩
theorem dr_zero (n q : Nat) : Dr n q 0 0 (List.replicate n (List.replicate n 0)) := by
  have e : ∀ a b, g2 (List.replicate n (List.replicate n 0)) a b = 0 := fun a b => by
    unfold g2
    rw [List.getD_eq_getElem?_getD, List.getD_eq_getElem?_getD, List.getElem?_replicate]
    split
    · show ((List.replicate n 0)[b]?).getD 0 = 0
      rw [List.getElem?_replicate]; split <;> rfl
    · rfl
  refine ⟨⟨List.length_replicate, fun r hr => ?_⟩, fun a _ => e a a, fun a b _ _ => by rw [e]; omega, fun a b _ _ _ z => by omega⟩
  obtain ⟨_, rfl⟩ := List.mem_replicate.mp hr
  exact List.length_replicate
section
variable {T : Tab} {G : Str → Option D} {N0 m : Nat}
theorem one_more {V : EnvQ} {e : E} {L L1 : Lcs} {j : Nat} (h : den V e L = .ok (nD j, L1)) (hp : isP e = false) : den V (.o2 .add (.p (.int 1)) e) L = .ok (nD (j + 1), L1) :=
  x_o2 (keepD (d := .int 1) rfl rfl) (rdE hp h) add1
theorem oD_in {o : Option Nat} {q : Nat} {x : D} {v : Nat} (hv : v ≤ q) (hq : 1 ≤ q) (h : x ∈ [D.non, nD 0, nD 0, nD 1, nD v]) : ∃ o : Option Nat, x = oD o ∧ ∀ u, o = some u → u ≤ q := by
  simp only [List.mem_cons, List.not_mem_nil, or_false] at h
  rcases h with rfl | rfl | rfl | rfl | rfl
  · exact ⟨none, rfl, fun _ z => nomatch z⟩
  · exact ⟨some 0, rfl, fun u z => by cases z; omega⟩
  · exact ⟨some 0, rfl, fun u z => by cases z; omega⟩
  · exact ⟨some 1, rfl, fun u z => by cases z; omega⟩
  · exact ⟨some v, rfl, fun u z => by cases z; omega⟩
/-- what a row of drawn tolls is -/
theorem rows_pick {q : Nat} : ∀ {xs : List Nat} {ys : List D}, All2 (fun _ y => ∃ o : Option Nat, y = oD o ∧ ∀ u, o = some u → u ≤ q) xs ys → ∃ a : List (Option Nat), ys = a.map oD ∧ a.length = xs.length ∧ ∀ v, some v ∈ a → v ≤ q
  | _, _, .nil => ⟨[], rfl, rfl, fun _ z => nomatch z⟩
  | _, _, .cons h t => by
    obtain ⟨o, rfl, ho⟩ := h
    obtain ⟨a, rfl, h2, h3⟩ := rows_pick t
    refine ⟨o :: a, rfl, by simp [h2], fun v hv => ?_⟩
    rcases List.mem_cons.mp hv with hv | hv
    · exact ho v hv.symm
    · exact h3 v hv
theorem store_ok (h : Is_l_store T) (hc : Is_l_closed T) (hp : PickIs T) (hd : DrawIs T) (hN : 100 < N0) {S : D} {c0 n asks most q : Nat} (s : StOk S c0) (hn : 0 < n ∧ n ≤ 20) (ha : 0 < asks ∧ asks ≤ 20) (hm : 0 < most ∧ most ≤ q ∧ most < 1000) (hb : c0 + 2000 < 900000000000) :
    ∃ S' W A, StOk S' (c0 + 2000) ∧ Store n q W A ∧ A.length = asks ∧ (envN T G N0 (m + 3)).call (Str.ofString "_law_store") [S, nD n, nD asks, nD most] = .ok (stD W A, [some S']) := by
  let V := envN T G N0 (m + 2)
  have hnn : n * n ≤ 400 := Nat.le_trans (Nat.mul_le_mul hn.2 hn.2) (by decide)
  obtain ⟨S1, kind, s1, hk, c1⟩ := x_drw (G := G) (m := m + 1) hd hN s (by omega) (M := 3) (by omega) (L := [some S, some (nD n), some (nD asks), some (nD most), none, none, none, none, none, none, none, none, none]) (i := 0) (e := .p (.int 3)) rfl (keepD rfl rfl)
  let mk (S : D) (w o6 o7 o8 o9 o10 o11 : Option D) : Lcs := [some S, some (nD n), some (nD asks), some (nD most), some (nD kind), w, o6, o7, o8, o9, o10, o11, none]
  -- the ways
  obtain ⟨L', e1, S2, W, o6, o9, rfl, s2, d2⟩ := forRun_ix (tg := .nm 6) (n := n) (body := fun L => runSs V (match bd_l_store with | .cons _ (.cons _ (.cons (.for_ _ _ b) _)) => b | _ => .nil) L) nD
    (fun i L => ∃ S W o6 o9, L = mk S (some (mD W)) o6 none none o9 none none ∧ StOk S (c0 + 1 + i * n) ∧ Dr n q i 0 W) (by
      rintro i hi _ ⟨S, W, o6, o9, rfl, s, d⟩
      have hin : (i + 1) * n ≤ n * n := Nat.mul_le_mul_right n (by omega)
      rw [Nat.succ_mul] at hin
      obtain ⟨L2, e2, S2, W2, o9', rfl, s2, d2⟩ := forRun_ix (tg := .nm 9) (n := n) (body := fun L => runSs V (match bd_l_store with | .cons _ (.cons _ (.cons (.for_ _ _ (.cons (.for_ _ _ b) _)) _)) => b | _ => .nil) L) nD
        (fun j L => ∃ S W o9, L = mk S (some (mD W)) (some (nD i)) none none o9 none none ∧ StOk S (c0 + 1 + i * n + j) ∧ Dr n q i j W) (by
          rintro j hj _ ⟨S, W, o9, rfl, s, d⟩
          let La := mk S (some (mD W)) (some (nD i)) none none (some (nD j)) none none
          have cn : pur V.G (.o2 .ne (.var 6) (.var 9)) La = some (.bl (!decide (i = j))) := neN (a := i) (b := j) rfl rfl
          by_cases hij : i = j
          · subst hij
            rw [decide_eq_true rfl] at cn
            exact ⟨La, La, rfl, q_if0 (rdP cn) q_nil, S, W, _, rfl, s.up (by omega), d.skip⟩
          · rw [decide_eq_false hij] at cn
            have c3 : pur V.G (.and (.o2 .lt (.var 4) (.int 2)) (.o2 .lt (.var 9) (.var 6))) La = some (.bl (Nat.blt kind 2 && Nat.blt j i)) := p_and (ltNb (a := kind) (b := 2) rfl rfl) fun _ => ltNb (a := j) (b := i) rfl rfl
            have key : ∃ v S', StOk S' (c0 + 1 + i * n + j + 1) ∧ (0 < v ∧ v ≤ q) ∧ den V (.ife (.p (.and (.o2 .lt (.var 4) (.int 2)) (.o2 .lt (.var 9) (.var 6)))) (.p (.o2 .ix (.o2 .ix (.var 5) (.var 9)) (.var 6))) (.o2 .add (.p (.int 1)) (.call (Str.ofString "_law_draw") [] (.cons (.p (.var 0)) (.cons (.ife (.p (.o2 .gt (.var 4) (.int 0))) (.p (.var 3)) (.p (.int 1))) .nil))))) La = .ok (nD v, mk S' (some (mD W)) (some (nD i)) none none (some (nD j)) none none) := by
              cases hb : (Nat.blt kind 2 && Nat.blt j i) with
              | true =>
                rw [hb] at c3
                have hji : j < i := by rw [Bool.and_eq_true] at hb; exact Nat.blt_eq.mp hb.2
                refine ⟨g2 W j i, S, s.up (by omega), ⟨d.pos j i hj hi (Ne.symm hij) (.inl hji), d.le j i hj hi⟩, x_ifT (rdP c3) (keepD ?_ rfl)⟩
                exact p_g2 (wd := mD W) (ws := W.map (iL true)) rfl rfl (rows_mD true W) rfl rfl (by rw [d.dim.len]; exact hj) (by rw [d.dim.at hj]; exact hi)
              | false =>
                rw [hb] at c3
                have c4 : den V (.ife (.p (.o2 .gt (.var 4) (.int 0))) (.p (.var 3)) (.p (.int 1))) La = .ok (nD (if Nat.blt 0 kind = true then most else 1), La) := by
                  have cg : pur V.G (.o2 .gt (.var 4) (.int 0)) La = some (.bl (Nat.blt 0 kind)) := gtN (a := kind) (b := 0) rfl rfl
                  cases hg : Nat.blt 0 kind with
                  | true => rw [hg] at cg; exact x_ifT (rdP cg) (keepD rfl rfl)
                  | false => rw [hg] at cg; exact x_ifF (rdP cg) (keepD rfl rfl)
                obtain ⟨S', v, s', hv, cd⟩ := x_drw (G := G) (m := m + 1) hd hN s (by omega) (M := if Nat.blt 0 kind = true then most else 1) (by split <;> omega) (L := La) (i := 0) rfl c4 rfl
                refine ⟨v + 1, S', s', ⟨by omega, ?_⟩, x_ifF (rdP c3) (one_more cd rfl)⟩
                split at hv <;> omega
            obtain ⟨v, S', s', hv, ce⟩ := key
            exact ⟨La, mk S' (some (mD (set2 W i j v))) (some (nD i)) none none (some (nD j)) none none, rfl, q_ifT (rdP cn) (q_set2 ce rfl rfl rfl d.dim hi hj q_nil) q_nil, S', _, _, rfl, s', d.put hi hj hij hv⟩) (L := mk S (some (mD W)) (some (nD i)) none none o9 none none) ⟨S, W, o9, rfl, s, d⟩
      refine ⟨mk S (some (mD W)) (some (nD i)) none none o9 none none, _, rfl, q_for (src_rng1 (n := n) rfl (by omega)) e2 q_nil, S2, W2, _, _, rfl, s2.up (by rw [Nat.succ_mul]; omega), d2.row⟩) (L := mk S1 (some (mD (List.replicate n (List.replicate n 0)))) none none none none none none) ⟨S1, _, none, none, rfl, by simpa using s1, dr_zero n q⟩
  -- the asks
  have key2 : asks * (2 * n + 2) ≤ 20 * 42 := Nat.mul_le_mul ha.2 (by omega)
  obtain ⟨L3, e3, S3, A, o8, o11, rfl, s3, hA, hAl⟩ := forRun_ix (tg := .nm 8) (n := asks) (body := fun L => runSs V (match bd_l_store with | .cons _ (.cons _ (.cons _ (.cons _ (.cons (.for_ _ _ b) _)))) => b | _ => .nil) L) nD
    (fun a L => ∃ S A o8 o11, L = mk S (some (mD W)) o6 (some (.lst true (A.map (oL true)))) o8 o9 none o11 ∧ StOk S (c0 + 1 + n * n + a * (2 * n + 2)) ∧ (∀ x ∈ A, AskOk n q x) ∧ A.length = a) (by
      rintro a haa _ ⟨S, A, o8, o11, rfl, s, hA, hAl⟩
      have hin : (a + 1) * (2 * n + 2) ≤ asks * (2 * n + 2) := Nat.mul_le_mul_right _ (by omega)
      rw [Nat.succ_mul] at hin
      let o7 : Option D := some (.lst true (A.map (oL true)))
      let W0 : D → Lcs := fun S => mk S (some (mD W)) o6 o7 (some (nD a)) o9 none o11
      -- a row
      obtain ⟨S1, ys, Lf, s1, y1, r1, w1⟩ := lcRun_st (tg := .nm 12) (vs := [12]) (cond := fun L => conds V .nil L) (elt := fun L => den V (.call (Str.ofString "_law_pick") [] (.cons (.p (.var 0)) (.cons (.lst (.cons (.p .non) (.cons (.p (.int 0)) (.cons (.p (.int 0)) (.cons (.p (.int 1)) (.cons (.o2 .add (.p (.int 1)) (.call (Str.ofString "_law_draw") [] (.cons (.p (.var 0)) (.cons (.p (.var 3)) .nil)))) .nil)))))) .nil))) L) nD W0 (fun n S => StOk S n) (fun _ y => ∃ o : Option Nat, y = oD o ∧ ∀ u, o = some u → u ≤ q) 2 (c0 + 1 + n * n + a * (2 * n + 2) + 2 * n) (List.range n) (W0 S) S (c0 + 1 + n * n + a * (2 * n + 2)) (fun x _ S j s hB => by
        let Lx : D → Lcs := fun S => [some S, some (nD n), some (nD asks), some (nD most), some (nD kind), some (mD W), o6, o7, some (nD a), o9, none, o11, some (nD x)]
        obtain ⟨S1, v, s1, hv, c1⟩ := x_drv (G := G) (m := m + 1) hd hN s (by omega) (M := most) (by omega) (L := Lx S) (i := 0) (j0 := 3) (by decide) rfl rfl
        obtain ⟨S2, y, s2, hy, c2⟩ := pick_ok (G := G) (m := m) hp hd hN s1 (by omega) (ds := [.non, nD 0, nD 0, nD 1, nD (v + 1)]) rfl ⟨by simp, by simp⟩
        refine ⟨S2, y, Lx S, Lx S2, s2, oD_in (o := none) (q := q) (by omega) (by omega) hy, rfl, conds_nil _ _, ?_, rfl⟩
        have al : den V (.lst (.cons (.p .non) (.cons (.p (.int 0)) (.cons (.p (.int 0)) (.cons (.p (.int 1)) (.cons (.o2 .add (.p (.int 1)) (.call (Str.ofString "_law_draw") [] (.cons (.p (.var 0)) (.cons (.p (.var 3)) .nil)))) .nil)))))) (Lx S) = .ok (.lst true [.non, nD 0, nD 0, nD 1, nD (v + 1)], Lx S1) :=
          x_lst (q_cons (keepD rfl rfl) (q_cons (keepD rfl rfl) (q_cons (keepD rfl rfl) (q_cons (keepD rfl rfl) (q_cons (one_more c1 rfl) q_end)))))
        refine calFio hp (S := S) rfl (a_val al a_end) c2 rfl (Ly := (Lx S1).set 0 none) (avI rfl (avV rfl avE)) rfl ?_
        split <;> rfl) rfl s (by simp; omega)
      rw [List.length_range] at s1
      obtain ⟨row, rfl, hrl, hrb⟩ := rows_pick y1
      rw [List.length_range] at hrl
      have hlc : den V (.lc [12] (.nm 12) (.rng (.cons (.p (.var 1)) .nil)) .nil (.call (Str.ofString "_law_pick") [] (.cons (.p (.var 0)) (.cons (.lst (.cons (.p .non) (.cons (.p (.int 0)) (.cons (.p (.int 0)) (.cons (.p (.int 1)) (.cons (.o2 .add (.p (.int 1)) (.call (Str.ofString "_law_draw") [] (.cons (.p (.var 0)) (.cons (.p (.var 3)) .nil)))) .nil)))))) .nil)))) (W0 S) = .ok (oL true row, W0 S1) := by
        rw [den_lc, src_rng1 (n := n) rfl (by omega)]
        simp only [Res.bind]
        rw [r1]
        simp only [w1]
        rfl
      -- the stand that serves
      let L4 : D → Lcs := fun S => mk S (some (mD W)) o6 o7 (some (nD a)) o9 (some (oL true row)) o11
      obtain ⟨S2, at', s2, hat, c2⟩ := x_drv (G := G) (m := m + 1) hd hN s1 (by omega) (M := n) (by omega) (L := L4 S1) (i := 0) (j0 := 1) (by decide) rfl rfl
      let L5 : D → Lcs := fun S => mk S (some (mD W)) o6 o7 (some (nD a)) o9 (some (oL true row)) (some (nD at'))
      have hx : row[at']? = some (row[at']'(by omega)) := by simp [show at' < row.length by omega]
      generalize row[at']'(by omega) = o at hx
      have pix : pur V.G (.o2 .ix (.var 10) (.var 11)) (L5 S2) = some (oD o) := p_ix (d := oL true row) (ds := row.map oD) rfl rfl (i := at') rfl (by rw [List.getElem?_map, hx]; rfl)
      have key : ∃ v S', StOk S' (c0 + 1 + n * n + a * (2 * n + 2) + (2 * n + 2)) ∧ v ≤ q ∧ den V (.ife (.p (.o1 .ntN (.o2 .ix (.var 10) (.var 11)))) (.p (.o2 .ix (.var 10) (.var 11))) (.call (Str.ofString "_law_draw") [] (.cons (.p (.var 0)) (.cons (.p (.int 2)) .nil)))) (L5 S2) = .ok (nD v, L5 S') := by
        cases o with
        | some v => exact ⟨v, S2, s2.up (by omega), hrb v (List.mem_of_getElem? hx), x_ifT (rdP ((pur1 pix).trans rfl)) (keepD pix rfl)⟩
        | none =>
          obtain ⟨S', v, s', hv, cd⟩ := x_drw (G := G) (m := m + 1) hd hN s2 (by omega) (M := 2) (by omega) (L := L5 S2) (i := 0) (e := .p (.int 2)) rfl (keepD rfl rfl)
          exact ⟨v, S', s'.up (by omega), by omega, x_ifF (rdP ((pur1 pix).trans rfl)) cd⟩
      obtain ⟨v, S', s', hv, cv⟩ := key
      refine ⟨W0 S, mk S' (some (mD W)) o6 (some (.lst true ((A ++ [row.set at' (some v)]).map (oL true)))) (some (nD a)) o9 none (some (nD at')), rfl, ?_, S', A ++ [row.set at' (some v)], _, _, rfl, s'.up (by have : (a + 1) * (2 * n + 2) = a * (2 * n + 2) + (2 * n + 2) := Nat.succ_mul a (2 * n + 2); omega), ?_, by simp [hAl]⟩
      · refine q_asg hlc (q_asg c2 ((nx_cons (L1 := mk S' (some (mD W)) o6 o7 (some (nD a)) o9 (some (oL true (row.set at' (some v)))) (some (nD at'))) ?_).trans ?_))
        · rw [run_setx]
          have : den V _ _ = _ := cv
          rw [show den V (.ife (.p (.o1 .ntN (.o2 .ix (.var 10) (.var 11)))) (.p (.o2 .ix (.var 10) (.var 11))) (.call (Str.ofString "_law_draw") [] (.cons (.p (.var 0)) (.cons (.p (.int 2)) .nil)))) ((List.set (L4 S1) 0 (some S2)).set 11 (some (nD at'))) = .ok (nD v, L5 S') from cv]
          have hlen : (row.map oD).length = n := by rw [List.length_map, hrl]
          have e4 : (row.map oD).set at' (nD v) = (row.set at' (some v)).map oD := by rw [List.map_set]; rfl
          have h10 : (L5 S')[10]? = some (some (.lst true (row.map oD))) := rfl
          have h11 : pur V.G (.var 11) (L5 S') = some (.int (at' : Int)) := rfl
          simp only [Res.seq, setxRun, h10, pathInts, h11, updPath, hlen, ixN_ok hat, e4, RS.of]
          rfl
        · refine q_app (xs := A.map (oL true)) (by rw [List.length_map, hAl]; omega) rfl (x_mv (d := oL true (row.set at' (some v))) rfl) rfl ?_
          rw [List.map_append]
          exact q_nil
      · intro x hx2
        rcases List.mem_append.mp hx2 with hx2 | hx2
        · exact hA x hx2
        · obtain rfl := List.mem_singleton.mp hx2
          refine ⟨by rw [List.length_set, hrl], ⟨at', v, hat, by rw [List.getElem?_set_self (by omega)]⟩, fun u hu => ?_⟩
          rcases List.mem_or_eq_of_mem_set hu with hu | hu
          · exact hrb u hu
          · cases hu; exact hv) (L := mk S2 (some (mD W)) o6 (some (.lst true [])) none o9 none none) ⟨S2, [], none, none, rfl, by simpa using s2, (fun _ z => nomatch z), rfl⟩
  obtain ⟨F, cF, cc⟩ := closed_ok (T := T) (G := G) (N0 := N0) (m := m + 1) hc d2.done (by omega)
  refine ⟨S3, F, A, s3.up (by omega), ⟨cF, hn.1, by omega, hA⟩, hAl, ?_⟩
  rw [h.call]
  have hlc0 : den V (.lc [12] (.nm 12) (.rng (.cons (.p (.var 1)) .nil)) .nil (.rep (.lst (.cons (.p (.int 0)) .nil)) (.p (.var 1)))) (mk S1 none none none none none none none) = .ok (mD (List.replicate n (List.replicate n 0)), mk S1 none none none none none none none) := by
    refine (lc_all nD (fun _ => iL true (List.replicate n 0)) (List.range n) (src_rng1 (n := n) rfl (by omega)) (fun x _ => ⟨[some S1, some (nD n), some (nD asks), some (nD most), some (nD kind), none, none, none, none, none, none, none, some (nD x)], rfl, rfl, x_rep0 (n := n) rfl (by omega)⟩) rfl).trans ?_
    unfold mD
    rw [List.map_const', List.length_range, List.map_replicate]
  have hcl : den V (.call (Str.ofString "_law_closed") [] (.cons (.p (.var 5)) .nil)) (mk S3 (some (mD W)) o6 (some (.lst true (A.map (oL true)))) o8 o9 none o11) = .ok (mD F, mk S3 (some (mD W)) o6 (some (.lst true (A.map (oL true)))) o8 o9 none o11) := by
    refine calF hc (a_bor rfl a_end) cc rfl (avB rfl (mD_fz W) avE) rfl ?_
    rw [mD_sh]; rfl
  exact ret1 (q_asg c1 (q_asg hlc0 (q_for (src_rng1 (n := n) rfl (by omega)) e1 (q_asg (x_lst q_end) (q_for (src_rng1 (n := asks) rfl (by omega)) e3 (q_ret (x_tup (q_cons hcl (q_cons (x_mv rfl) q_end)))))))))
end
end Q

namespace Q
open PySem L2 PySem.Spec
/-! ## a drawn store is a store -/
theorem store_fine {n q : Nat} {W : List (List Nat)} {A : List (List (Option Nat))} (h : Store n q W A) : faultO W A = none := by
  have hl : W.length = n := h.cl.dim.len
  have e1 : fa1 W = none := by
    unfold fa1
    rw [List.findSome?_eq_none_iff]
    intro i hi
    rw [List.findSome?_eq_none_iff]
    intro j hj
    have hi := List.mem_range.mp hi
    have hj := List.mem_range.mp hj
    rw [hl] at hi hj
    rw [if_neg]
    by_cases hij : i = j
    · subst hij
      rw [h.cl.dia i hi]; simp
    · have := h.cl.pos i j hi hj hij
      rw [decide_eq_false (by omega), decide_eq_false hij]; simp
  have e2 : fa2 W = none := by
    unfold fa2
    rw [List.findSome?_eq_none_iff]
    intro i hi
    rw [List.findSome?_eq_none_iff]
    intro b hb
    rw [List.findSome?_eq_none_iff]
    intro j hj
    have hi := List.mem_range.mp hi
    have hj := List.mem_range.mp hj
    have hb := List.mem_range.mp hb
    rw [hl] at hi hj hb
    rw [if_neg]
    intro z
    have := Nat.blt_eq.mp z
    have := h.cl.tri b hb i j hi hj
    omega
  have e3 : fa3 A = none := by
    unfold fa3
    rw [List.findSome?_eq_none_iff]
    intro i hi
    have hi := List.mem_range.mp hi
    have hm : A.getD i [] ∈ A := by rw [show A.getD i [] = A[i] by simp [hi]]; exact List.getElem_mem hi
    obtain ⟨k, v, _, hk⟩ := (h.ask _ hm).srv
    rw [if_neg]
    intro z
    have := List.all_eq_true.mp z _ (List.mem_of_getElem? hk)
    cases this
  unfold faultO
  rw [e1, e2, e3]; rfl
theorem numN_nD (x : Nat) : numN (nD x) = x := by show ((x : Int)).toNat = x; exact Int.toNat_natCast x
theorem tollN_oD (x : Option Nat) : tollN (oD x) = x := by
  cases x with
  | none => rfl
  | some v => show some ((v : Int)).toNat = _; rw [Int.toNat_natCast]
theorem row_good {n : Nat} {b : Bool} {r : List Nat} (h : r.length = n) : badR n (iL b r) = false ∧ rowN (iL b r) = r := by
  constructor
  · unfold badR
    show (!(decide ((r.map nD).length = n) && (r.map nD).all numB)) = false
    rw [List.length_map, decide_eq_true h, List.all_map]
    have : r.all (numB ∘ nD) = true := List.all_eq_true.mpr fun x _ => by show decide (0 ≤ (x : Int)) = true; simp
    rw [this]; rfl
  · show (r.map nD).map numN = r
    rw [List.map_map]
    have : numN ∘ nD = id := by funext x; exact numN_nD x
    rw [this, List.map_id]
theorem ask_good {n : Nat} {b : Bool} {r : List (Option Nat)} (h : r.length = n) : badA n (oL b r) = false ∧ askN (oL b r) = r := by
  constructor
  · unfold badA
    show (!(decide ((r.map oD).length = n) && (r.map oD).all tollB)) = false
    rw [List.length_map, decide_eq_true h, List.all_map]
    have : r.all (tollB ∘ oD) = true := List.all_eq_true.mpr fun x _ => by cases x <;> first | rfl | (show decide (0 ≤ ((_ : Nat) : Int)) = true; simp)
    rw [this]; rfl
  · show (r.map oD).map tollN = r
    rw [List.map_map]
    have : tollN ∘ oD = id := by funext x; exact tollN_oD x
    rw [this, List.map_id]
theorem form_st {n q : Nat} {W : List (List Nat)} {A : List (List (Option Nat))} (h : Store n q W A) : formO (stF W A) = some (W, A) := by
  have hl : W.length = n := h.cl.dim.len
  show form2 (W.map (iL false)) (A.map (oL false)) = _
  unfold form2
  have c0 : ((W.map (iL false)).isEmpty || (A.map (oL false)).isEmpty) = false := by
    have := h.pos; have := h.ap
    cases W <;> cases A <;> first | rfl | (simp at hl; omega) | (simp at *)
  have c1 : (W.map (iL false)).any (badR (W.map (iL false)).length) = false := by
    rw [List.length_map, List.any_map, List.any_eq_false]
    intro r hr z
    have := (row_good (n := W.length) (b := false) (r := r) (by rw [hl]; exact h.cl.dim.row r hr)).1
    rw [Function.comp, this] at z; cases z
  have c2 : (A.map (oL false)).any (badA (W.map (iL false)).length) = false := by
    rw [List.length_map, List.any_map, List.any_eq_false]
    intro r hr z
    have := (ask_good (n := W.length) (b := false) (r := r) (by rw [hl]; exact (h.ask r hr).len)).1
    rw [Function.comp, this] at z; cases z
  have c3 : (W.map (iL false)).map rowN = W := (rows_mD false W).rn
  have c4 : (A.map (oL false)).map askN = A := by
    rw [List.map_map]
    refine (List.map_congr_left fun r hr => ?_).trans (List.map_id A)
    exact (ask_good (n := r.length) rfl).2
  rw [c0, c1, c2, c3, c4]
  rfl
theorem stF_fz (W : List (List Nat)) (A : List (List (Option Nat))) : (stF W A).fz = stF W A := by
  rw [← stD_fz, fzfz]
theorem stF_ow (W : List (List Nat)) (A : List (List (Option Nat))) : (stF W A).ow = stD W A := by
  unfold stF stD mF mD
  rw [D.ow, D.ows, D.ows, D.ows, D.ow, D.ow, ows_eq, ows_eq, List.map_map, List.map_map]
  have h1 : D.ow ∘ iL false = iL true := by
    funext x
    show D.lst true (D.ows (x.map nD)) = _
    rw [ows_eq, List.map_map]; rfl
  have h2 : D.ow ∘ oL false = oL true := by
    funext x
    show D.lst true (D.ows (x.map oD)) = D.lst true (x.map oD)
    rw [ows_eq, List.map_map]
    exact congrArg _ (List.map_congr_left fun o _ => by cases o <;> rfl)
  rw [h1, h2]
theorem flat_nD : ∀ xs : List Nat, ∀ x ∈ xs.map nD, flatD x = true := fun xs x hx => by obtain ⟨y, _, rfl⟩ := List.mem_map.mp hx; rfl
theorem flat_oD : ∀ xs : List (Option Nat), ∀ x ∈ xs.map oD, flatD x = true := fun xs x hx => by obtain ⟨y, _, rfl⟩ := List.mem_map.mp hx; cases y <;> rfl
theorem small_seq {k : Nat} {b : Bool} {ds : List D} (hl : ds.length ≤ 20) (h : ∀ x ∈ ds, small k x = true) : small (k + 1) (.lst b ds) = true ∧ small (k + 1) (.tup ds) = true := by
  have q : (decide (ds.length ≤ 20) && ds.all (small k)) = true := by
    rw [Bool.and_eq_true, decide_eq_true_eq, List.all_eq_true]; exact ⟨hl, h⟩
  exact ⟨q, q⟩
theorem small_iL {k : Nat} {b : Bool} {xs : List Nat} (h : xs.length ≤ 20) : small (k + 1) (iL b xs) = true := (small_seq (by rw [List.length_map]; exact h) fun x hx => small_flat (flat_nD xs x hx) k).1
theorem small_oL {k : Nat} {b : Bool} {xs : List (Option Nat)} (h : xs.length ≤ 20) : small (k + 1) (oL b xs) = true := (small_seq (by rw [List.length_map]; exact h) fun x hx => small_flat (flat_oD xs x hx) k).1
section
variable {n q : Nat} {W : List (List Nat)} {A : List (List (Option Nat))}
theorem small_mD {b : Bool} {k : Nat} (h : Dim n W) (hn : n ≤ 20) : small (k + 2) (.lst b (W.map (iL b))) = true := by
  refine (small_seq (by rw [List.length_map, h.len]; exact hn) fun x hx => ?_).1
  obtain ⟨y, hy, rfl⟩ := List.mem_map.mp hx
  exact small_iL (by rw [h.row y hy]; exact hn)
theorem small_aD {b c : Bool} {k : Nat} (h : ∀ a ∈ A, a.length ≤ 20) (hA : A.length ≤ 20) : small (k + 2) (.lst b (A.map (oL c))) = true := by
  refine (small_seq (by rw [List.length_map]; exact hA) fun x hx => ?_).1
  obtain ⟨y, hy, rfl⟩ := List.mem_map.mp hx
  exact small_oL (h y hy)
theorem small_st (h : Store n q W A) (hn : n ≤ 20) (hA : A.length ≤ 20) : small 3 (stF W A) = true := by
  refine (small_seq (b := true) (by simp) fun x hx => ?_).2
  simp only [List.mem_cons, List.not_mem_nil, or_false] at hx
  rcases hx with rfl | rfl
  · exact small_mD (k := 0) h.cl.dim hn
  · exact small_aD (k := 0) (fun a ha => by rw [(h.ask a ha).len]; exact hn) hA
end

theorem ow_fz : ∀ (k : Nat) {d : D}, small k d = true → d.ow.fz = d.fz
  | 0, d, h => by cases d <;> first | rfl | (simp [small, flatD] at h)
  | k + 1, d, h => by
    cases d <;> first | rfl | (simp [small] at h; done) | skip
    · simp only [small, Bool.and_eq_true, List.all_eq_true] at h
      simp only [D.ow, D.fz, ows_eq, fzs_eq, List.map_map]
      exact congrArg _ (List.map_congr_left fun x hx => ow_fz k (h.2 x hx))
    · simp only [small, Bool.and_eq_true, List.all_eq_true] at h
      simp only [D.ow, D.fz, ows_eq, fzs_eq, List.map_map]
      exact congrArg _ (List.map_congr_left fun x hx => ow_fz k (h.2 x hx))
    · simp only [small, Bool.and_eq_true, List.isEmpty_iff] at h
      obtain ⟨rfl, rfl⟩ := h
      rfl
/-- numbers, None, tuples and lists of such -/
def D.qk : Nat → D → Bool
  | 0, _ => false
  | k + 1, d => match d with
    | .int _ => true
    | .bl _ => true
    | .non => true
    | .tup ds => ds.all (D.qk k)
    | .lst _ ds => ds.all (D.qk k)
    | _ => false
theorem qk_nm : ∀ (k : Nat) {d e : D}, d.nm = e.nm → small k e = true → D.qk k e = true → small k d = true → D.qk k d = true
  | 0, d, e, _, _, h, _ => by cases h
  | k + 1, d, e, hn, hs, h, hd => by
    have seq : ∀ ds es : List D, D.nms ds = D.nms es → es.all (small k) = true → es.all (D.qk k) = true → ds.all (small k) = true → ds.all (D.qk k) = true := by
      intro ds
      induction ds with
      | nil => intros; rfl
      | cons x ds ih =>
        intro es h1 h2 h3 h4
        cases es with
        | nil => simp [D.nms] at h1
        | cons y es =>
          simp only [D.nms, List.cons.injEq] at h1
          simp only [List.all_cons, Bool.and_eq_true] at h2 h3 h4 ⊢
          exact ⟨qk_nm k h1.1 h2.1 h3.1 h4.1, ih es h1.2 h2.2 h3.2 h4.2⟩
    cases d <;> cases e <;> simp only [D.nm, reduceCtorEq, D.tup.injEq, D.qk, Bool.false_eq_true] at hn h <;> first | rfl | (simp [small] at hd; done) | (simp [small] at hs; done) | skip
    all_goals
      simp only [small, Bool.and_eq_true] at hs hd
      exact seq _ _ hn hs.2 h hd.2
theorem qk_sm : ∀ (k : Nat) {d : D}, D.qk k d = true → sm k d d = true
  | 0, d, h => by cases h
  | k + 1, d, h => by
    have zz : ∀ ds : List D, ds.all (D.qk k) = true → (ds.zip ds).all (fun p => sm k p.1 p.2) = true := fun ds hd => by
      refine List.all_eq_true.mpr fun p hp => ?_
      obtain ⟨i, hi, rfl⟩ := List.getElem_of_mem hp
      simp only [List.getElem_zip]
      exact qk_sm k (List.all_eq_true.mp hd _ (List.getElem_mem _))
    cases d with
    | int i => simp [sm]
    | bl b => simp [sm]
    | non => simp [sm]
    | tup ds => simp only [D.qk] at h; simp only [sm, decide_true, Bool.true_and]; exact zz ds h
    | lst b ds => simp only [D.qk] at h; simp only [sm, decide_true, Bool.true_and]; exact zz ds h
    | str s => cases h
    | dic o ks ds => cases h
    | frz ds => cases h
theorem qk_iL {k : Nat} {b : Bool} {xs : List Nat} : D.qk (k + 2) (iL b xs) = true := by
  show (xs.map nD).all (D.qk (k + 1)) = true
  rw [List.all_map]
  exact List.all_eq_true.mpr fun x _ => rfl
theorem qk_oL {k : Nat} {b : Bool} {xs : List (Option Nat)} : D.qk (k + 2) (oL b xs) = true := by
  show (xs.map oD).all (D.qk (k + 1)) = true
  rw [List.all_map]
  exact List.all_eq_true.mpr fun x _ => by cases x <;> rfl
theorem qk_st {k : Nat} {W : List (List Nat)} {A : List (List (Option Nat))} : D.qk (k + 4) (stF W A) = true := by
  show ([mF W, D.lst false (A.map (oL false))].all (D.qk (k + 3))) = true
  simp only [List.all_cons, List.all_nil, Bool.and_true, Bool.and_eq_true]
  constructor
  · show (W.map (iL false)).all (D.qk (k + 2)) = true
    rw [List.all_map]
    exact List.all_eq_true.mpr fun x _ => qk_iL
  · show (A.map (oL false)).all (D.qk (k + 2)) = true
    rw [List.all_map]
    exact List.all_eq_true.mpr fun x _ => qk_oL
theorem sm_seq {k : Nat} {b c : Bool} {xs : List D} (h : ∀ x ∈ xs, sm k x x = true) : sm (k + 1) (.lst b xs) (.lst c xs) = true ∧ sm (k + 1) (.tup xs) (.tup xs) = true := by
  have q : (decide (xs.length = xs.length) && (xs.zip xs).all fun p => sm k p.1 p.2) = true := by
    rw [decide_eq_true rfl, Bool.true_and]
    refine List.all_eq_true.mpr fun p hp => ?_
    obtain ⟨i, hi, rfl⟩ := List.getElem_of_mem hp
    simp only [List.getElem_zip]
    exact h _ (List.getElem_mem _)
  exact ⟨q, q⟩
end Q

namespace K01
open PySem L2 Q
def top (i : Nat) : Stmt := PySem.Challenge.pw_paidlater_k01_stores_known.main.body.getD i (.Pass ⟨0, 0, 0, 0⟩)
def fn_law : FnD := { ps := [Str.ofString "script"], N := [Str.ofString "script", Str.ofString "stream", Str.ofString "turn", Str.ofString "store", Str.ofString "handed", Str.ofString "was", Str.ofString "found", Str.ofString "k", Str.ofString "bent", Str.ofString "due"], md := [], body :=
 (.cons (.asg (.nm 1) (.call (Str.ofString "_law_stream") [] (.cons (.p (.var 0)) .nil)))
 (.cons (.for_ (.nm 2) (.rng (.cons (.p (.int 6)) .nil))
 (.cons (.asg (.nm 3) (.call (Str.ofString "_law_store") [] (.cons (.p (.var 1)) (.cons (.o2 .add (.p (.int 1)) (.call (Str.ofString "_law_draw") [] (.cons (.p (.var 1)) (.cons (.p (.int 6)) .nil)))) (.cons (.o2 .add (.p (.int 1)) (.call (Str.ofString "_law_draw") [] (.cons (.p (.var 1)) (.cons (.p (.int 4)) .nil)))) (.cons (.o2 .add (.p (.int 1)) (.call (Str.ofString "_law_draw") [] (.cons (.p (.var 1)) (.cons (.p (.int 9)) .nil)))) .nil))))))
 (.cons (.asg (.nm 4) (.call (Str.ofString "_law_loose") [] (.cons (.p (.var 1)) (.cons (.p (.var 3)) .nil))))
 (.cons (.asg (.nm 5) (.call (Str.ofString "_law_copied") [] (.cons (.p (.var 4)) .nil)))
 (.cons (.asg (.nm 6) (.lst (.cons (.call (Str.ofString "is_store") [] (.cons (.p (.var 4)) .nil)) (.cons (.call (Str.ofString "is_store") [Str.ofString "thing"] (.cons (.call (Str.ofString "_law_copied") [] (.cons (.p (.var 3)) .nil)) .nil)) (.cons (.call (Str.ofString "store_fault") [] (.cons (.p (.var 4)) .nil)) (.cons (.call (Str.ofString "store_fault") [Str.ofString "thing"] (.cons (.call (Str.ofString "_law_copied") [] (.cons (.p (.var 3)) .nil)) .nil)) .nil))))))
 (.cons (.ifs (.or (.o1 .not (.call (Str.ofString "_law_same") [] (.cons (.p (.var 6)) (.cons (.lst (.cons (.p (.bl true)) (.cons (.p (.bl true)) (.cons (.p .non) (.cons (.p .non) .nil))))) .nil)))) (.o1 .not (.call (Str.ofString "_law_same") [] (.cons (.p (.var 4)) (.cons (.p (.var 5)) .nil)))))
 (.cons (.ret (.p (.bl false)))
 .nil)
 .nil)
 (.cons (.for_ (.nm 7) (.rng (.cons (.p (.int 4)) .nil))
 (.cons (.asg (.nm 8) (.call (Str.ofString "_law_bent") [] (.cons (.p (.var 1)) (.cons (.p (.var 3)) .nil))))
 (.cons (.asg (.nm 9) (.call (Str.ofString "_law_store_fault") [] (.cons (.p (.var 8)) .nil)))
 (.cons (.asg (.nm 6) (.lst (.cons (.call (Str.ofString "store_fault") [] (.cons (.call (Str.ofString "_law_copied") [] (.cons (.p (.var 8)) .nil)) .nil)) (.cons (.call (Str.ofString "store_fault") [Str.ofString "thing"] (.cons (.call (Str.ofString "_law_loose") [] (.cons (.p (.var 1)) (.cons (.p (.var 8)) .nil))) .nil)) (.cons (.call (Str.ofString "is_store") [] (.cons (.call (Str.ofString "_law_copied") [] (.cons (.p (.var 8)) .nil)) .nil)) .nil)))))
 (.cons (.ifs (.o1 .not (.call (Str.ofString "_law_same") [] (.cons (.p (.var 6)) (.cons (.lst (.cons (.p (.var 9)) (.cons (.p (.var 9)) (.cons (.p (.o1 .isN (.var 9))) .nil)))) .nil))))
 (.cons (.ret (.p (.bl false)))
 .nil)
 .nil)
 .nil)))))
 .nil)))))))
 (.cons (.ret (.and (.call (Str.ofString "_law_same") [] (.cons (.call (Str.ofString "store_fault") [] (.cons (.tup (.cons (.lst (.cons (.lst (.cons (.p (.int 0)) (.cons (.p (.int 3)) (.cons (.p (.int 1)) .nil)))) (.cons (.lst (.cons (.p (.int 3)) (.cons (.p (.int 0)) (.cons (.p (.int 1)) .nil)))) (.cons (.lst (.cons (.p (.int 1)) (.cons (.p (.int 1)) (.cons (.p (.int 0)) .nil)))) .nil)))) (.cons (.lst (.cons (.lst (.cons (.p (.int 0)) (.cons (.p (.int 0)) (.cons (.p (.int 0)) .nil)))) .nil)) .nil))) .nil)) (.cons (.tup (.cons (.p (.str (Str.ofString "way"))) (.cons (.p (.int 0)) (.cons (.p (.int 2)) (.cons (.p (.int 1)) .nil))))) .nil))) (.o1 .isTr (.call (Str.ofString "is_store") [] (.cons (.tup (.cons (.lst (.cons (.lst (.cons (.p (.int 0)) .nil)) .nil)) (.cons (.lst (.cons (.lst (.cons (.p (.int 0)) .nil)) .nil)) .nil))) .nil)))))
 .nil))) }
def fn__law_bent : FnD := { ps := [Str.ofString "stream", Str.ofString "store"], N := [Str.ofString "stream", Str.ofString "store", Str.ofString "ways", Str.ofString "asks", Str.ofString "way", Str.ofString "stands", Str.ofString "one", Str.ofString "other"], md := [true], body :=
 (.cons (.asg (.tup [2, 3]) (.call (Str.ofString "_law_copied") [] (.cons (.p (.var 1)) .nil)))
 (.cons (.par [4, 5] (.cons (.call (Str.ofString "_law_draw") [] (.cons (.p (.var 0)) (.cons (.p (.int 8)) .nil))) (.cons (.p (.o1 .len (.o2 .ix (.var 1) (.int 0)))) .nil)))
 (.cons (.par [6, 7] (.cons (.call (Str.ofString "_law_draw") [] (.cons (.p (.var 0)) (.cons (.p (.var 5)) .nil))) (.cons (.call (Str.ofString "_law_draw") [] (.cons (.p (.var 0)) (.cons (.p (.var 5)) .nil))) .nil)))
 (.cons (.ifs (.p (.o2 .eq (.var 4) (.int 0)))
 (.cons (.setx 2 [(.var 6)] (.var 7) (.call (Str.ofString "_law_pick") [] (.cons (.p (.var 0)) (.cons (.lst (.cons (.p .non) (.cons (.p (.o1 .neg (.int 1))) (.cons (.p (.bl true)) (.cons (.p (.str (Str.ofString "1"))) (.cons (.p (.int 0)) (.cons (.p (.int 3)) (.cons (.p (.o2 .pow (.int 10) (.int 30))) .nil)))))))) .nil))))
 .nil)
 (.cons (.ifs (.p (.o2 .eq (.var 4) (.int 1)))
 (.cons (.setx 2 [(.var 6)] (.var 7) (.ife (.p (.o2 .ne (.var 6) (.var 7))) (.p (.int 0)) (.p (.int 1))))
 .nil)
 (.cons (.ifs (.p (.o2 .eq (.var 4) (.int 2)))
 (.cons (.setx 2 [(.var 6)] (.var 7) (.p (.o2 .add (.o2 .ix (.o2 .ix (.var 2) (.var 6)) (.var 7)) (.int 40))))
 .nil)
 (.cons (.ifs (.p (.o2 .eq (.var 4) (.int 3)))
 (.cons (.setE 3 (.call (Str.ofString "_law_draw") [] (.cons (.p (.var 0)) (.cons (.p (.o1 .len (.var 3))) .nil))) (.call (Str.ofString "_law_pick") [] (.cons (.p (.var 0)) (.cons (.lst (.cons (.p .non) (.cons (.lst .nil) (.cons (.rep (.lst (.cons (.p .non) .nil)) (.p (.var 5))) (.cons (.rep (.lst (.cons (.p (.int 0)) .nil)) (.p (.o2 .add (.var 5) (.int 1)))) (.cons (.rep (.lst (.cons (.p (.bl true)) .nil)) (.p (.var 5))) (.cons (.rep (.lst (.cons (.p (.o1 .neg (.int 1))) .nil)) (.p (.var 5))) (.cons (.p (.str (Str.ofString "ab"))) .nil)))))))) .nil))))
 .nil)
 (.cons (.ifs (.p (.o2 .eq (.var 4) (.int 4)))
 (.cons (.asg (.nm 2) (.slice (.p (.var 2)) (.cons (.p (.int 1)) .nil) .nil))
 .nil)
 (.cons (.ifs (.p (.o2 .eq (.var 4) (.int 5)))
 (.cons (.ret (.call (Str.ofString "_law_pick") [] (.cons (.p (.var 0)) (.cons (.lst (.cons (.p .non) (.cons (.p (.int 5)) (.cons (.p (.str (Str.ofString "ab"))) (.cons .dct (.cons (.lst .nil) (.cons (.tup (.cons (.p (.var 2)) .nil)) (.cons (.tup (.cons (.p (.var 2)) (.cons (.lst .nil) .nil))) (.cons (.tup (.cons (.lst .nil) (.cons (.p (.var 3)) .nil))) (.cons (.tup (.cons (.p (.var 2)) (.cons (.p (.var 3)) (.cons (.p (.int 0)) .nil)))) (.cons (.tup (.cons (.p .non) (.cons (.p (.var 3)) .nil))) (.cons (.tup (.cons (.p (.var 2)) (.cons (.p .non) .nil))) (.cons (.tup (.cons (.p (.var 3)) (.cons (.p (.var 2)) .nil))) .nil))))))))))))) .nil))))
 .nil)
 (.cons (.ifs (.p (.o2 .eq (.var 4) (.int 6)))
 (.cons (.asg (.nm 3) (.cat (.mv 3) (.lst (.cons (.rep (.lst (.cons (.p (.int 0)) .nil)) (.p (.var 5))) .nil))))
 .nil)
 (.cons (.setx 2 [] (.var 6) (.call (Str.ofString "_law_pick") [] (.cons (.p (.var 0)) (.cons (.lst (.cons (.p .non) (.cons (.lst .nil) (.cons (.sq .tuple (.p (.o2 .ix (.var 2) (.var 6)))) (.cons (.catl (.o2 .ix (.var 2) (.var 6)) [(.int 0)]) .nil))))) .nil))))
 .nil))
 .nil))
 .nil))
 .nil))
 .nil))
 .nil))
 .nil))
 (.cons (.ret (.tup (.cons (.mv 2) (.cons (.mv 3) .nil))))
 .nil))))) }
def fn__law_copied : FnD := { ps := [Str.ofString "thing"], N := [Str.ofString "thing", Str.ofString "some", Str.ofString "one", Str.ofString "key"], md := [], body :=
 (.cons (.ifs (.p (.o1 (.isi ["dict"]) (.var 0)))
 (.cons (.ret (.dce 0 [3]))
 .nil)
 .nil)
 (.cons (.asg (.nm 1) (.ife (.p (.o1 (.isi ["list", "tuple"]) (.var 0))) (.lc [2] (.nm 2) (.e (.p (.var 0))) .nil (.call (Str.ofString "_law_copied") [] (.cons (.p (.var 2)) .nil))) (.p (.var 0))))
 (.cons (.ret (.ife (.p (.o1 (.isi ["tuple"]) (.var 0))) (.sq .tuple (.mv 1)) (.mv 1)))
 .nil))) }
def fn__law_draw : FnD := { ps := [Str.ofString "stream", Str.ofString "many"], N := [Str.ofString "stream", Str.ofString "many", Str.ofString "mixed", Str.ofString "cell", Str.ofString "digit"], md := [true], body :=
 (.cons (.setx 0 [] (.int 2) (.p (.o2 .add (.o2 .ix (.var 0) (.int 2)) (.int 1))))
 (.cons (.whl (.p (.and (.o2 .eq (.o2 .ix (.var 0) (.int 1)) (.int 0)) (.o1 .neE (.o2 .ix (.var 0) (.int 0)))))
 (.cons (.asg (.nm 3) (.o1 .abs (.popi 0 [(.int 0)] (.cons (.p (.int 0)) .nil))))
 (.cons (.setx 0 [] (.int 3) (.p (.o2 .mod (.o1 .int1 (.o2 .add (.o2 .add (.o2 .mul (.o2 .ix (.var 0) (.int 3)) (.int 8191)) (.var 3)) (.int 3))) (.int 2147483647))))
 (.cons (.setx 0 [] (.int 1) (.ife (.p (.o2 .ge (.var 3) (.o2 .pow (.int 10) (.int 18)))) (.p (.var 3)) (.p (.int 0))))
 .nil))))
 (.cons (.ifs (.p (.o2 .gt (.o2 .ix (.var 0) (.int 1)) (.int 0)))
 (.cons (.asg (.nm 4) (.p (.o2 .mod (.o1 .int1 (.o2 .ix (.var 0) (.int 1))) (.var 1))))
 (.cons (.setx 0 [] (.int 1) (.p (.o2 .fdiv (.o2 .ix (.var 0) (.int 1)) (.var 1))))
 (.cons (.ret (.mv 4))
 .nil)))
 .nil)
 (.cons (.asg (.nm 2) (.p (.o2 .mod (.o1 .int1 (.o2 .pow (.o2 .add (.o2 .add (.o2 .ix (.var 0) (.int 3)) (.o2 .mul (.int 7919) (.o2 .ix (.var 0) (.int 2)))) (.int 104729)) (.int 5))) (.int 2147483629))))
 (.cons (.ret (.p (.o2 .mod (.o2 .mod (.o1 .int1 (.o2 .pow (.o2 .add (.o2 .add (.o2 .mul (.var 2) (.int 48271)) (.o2 .mul (.int 30011) (.o2 .ix (.var 0) (.int 2)))) (.int 29)) (.int 3))) (.int 1000000007)) (.var 1))))
 .nil))))) }
def fn__law_loose : FnD := { ps := [Str.ofString "stream", Str.ofString "thing"], N := [Str.ofString "stream", Str.ofString "thing", Str.ofString "some", Str.ofString "part"], md := [true], body :=
 (.cons (.ifs (.p (.o1 .not (.o1 (.isi ["list", "tuple"]) (.var 1))))
 (.cons (.ret (.mv 1))
 .nil)
 .nil)
 (.cons (.asg (.nm 2) (.lc [3] (.nm 3) (.e (.p (.var 1))) .nil (.call (Str.ofString "_law_loose") [] (.cons (.p (.var 0)) (.cons (.p (.var 3)) .nil)))))
 (.cons (.ret (.ife (.o2 .eq (.call (Str.ofString "_law_draw") [] (.cons (.p (.var 0)) (.cons (.p (.int 2)) .nil))) (.p (.int 0))) (.sq .tuple (.mv 2)) (.mv 2)))
 .nil))) }
def fn__law_same : FnD := { ps := [Str.ofString "found", Str.ofString "due"], N := [Str.ofString "found", Str.ofString "due", Str.ofString "mine", Str.ofString "theirs"], md := [], body :=
 (.cons (.ifs (.p (.o1 (.isi ["list", "tuple"]) (.var 1)))
 (.cons (.ifs (.p (.or (.o2 .ne (.o1 (.isi ["list"]) (.var 0)) (.o1 (.isi ["list"]) (.var 1))) (.o2 .ne (.o1 (.isi ["tuple"]) (.var 0)) (.o1 (.isi ["tuple"]) (.var 1)))))
 (.cons (.ret (.p (.bl false)))
 .nil)
 .nil)
 (.cons (.ret (.and (.p (.o2 .eq (.o1 .len (.var 0)) (.o1 .len (.var 1)))) (.sq .all (.lc [2, 3] (.tup [2, 3]) (.zip (.p (.var 0)) (.p (.var 1))) .nil (.call (Str.ofString "_law_same") [] (.cons (.p (.var 2)) (.cons (.p (.var 3)) .nil)))))))
 .nil))
 .nil)
 (.cons (.ifs (.p (.o1 (.isi ["dict"]) (.var 1)))
 (.cons .nev
 .nil)
 .nil)
 (.cons (.ifs (.p (.or (.o1 (.isi ["bool"]) (.var 1)) (.o1 (.isi ["bool"]) (.var 0))))
 (.cons (.ret (.p (.and (.o1 (.isi ["bool"]) (.var 1)) (.and (.o1 (.isi ["bool"]) (.var 0)) (.o2 .eq (.var 0) (.var 1))))))
 .nil)
 .nil)
 (.cons (.ifs (.p (.or (.o1 .isN (.var 1)) (.o1 .isN (.var 0))))
 (.cons (.ret (.p (.and (.o1 .isN (.var 1)) (.o1 .isN (.var 0)))))
 .nil)
 .nil)
 (.cons (.ifs (.p (.or (.o2 .ne (.o1 (.isi ["int"]) (.var 1)) (.o1 (.isi ["int"]) (.var 0))) (.o2 .ne (.o1 (.isi ["str"]) (.var 1)) (.o1 (.isi ["str"]) (.var 0)))))
 (.cons (.ret (.p (.bl false)))
 .nil)
 .nil)
 (.cons (.ret (.p (.and (.o1 .not (.o1 (.isi ["list", "tuple", "dict"]) (.var 0))) (.o2 .eq (.var 0) (.var 1)))))
 .nil)))))) }
def fn__law_store : FnD := { ps := [Str.ofString "stream", Str.ofString "stands", Str.ofString "asks", Str.ofString "most"], N := [Str.ofString "stream", Str.ofString "stands", Str.ofString "asks", Str.ofString "most", Str.ofString "kind", Str.ofString "ways", Str.ofString "one", Str.ofString "rows", Str.ofString "ask", Str.ofString "other", Str.ofString "row", Str.ofString "at", Str.ofString "stand"], md := [true], body :=
 (.cons (.asg (.nm 4) (.call (Str.ofString "_law_draw") [] (.cons (.p (.var 0)) (.cons (.p (.int 3)) .nil))))
 (.cons (.asg (.nm 5) (.lc [12] (.nm 12) (.rng (.cons (.p (.var 1)) .nil)) .nil (.rep (.lst (.cons (.p (.int 0)) .nil)) (.p (.var 1)))))
 (.cons (.for_ (.nm 6) (.rng (.cons (.p (.var 1)) .nil))
 (.cons (.for_ (.nm 9) (.rng (.cons (.p (.var 1)) .nil))
 (.cons (.ifs (.p (.o2 .ne (.var 6) (.var 9)))
 (.cons (.setx 5 [(.var 6)] (.var 9) (.ife (.p (.and (.o2 .lt (.var 4) (.int 2)) (.o2 .lt (.var 9) (.var 6)))) (.p (.o2 .ix (.o2 .ix (.var 5) (.var 9)) (.var 6))) (.o2 .add (.p (.int 1)) (.call (Str.ofString "_law_draw") [] (.cons (.p (.var 0)) (.cons (.ife (.p (.o2 .gt (.var 4) (.int 0))) (.p (.var 3)) (.p (.int 1))) .nil))))))
 .nil)
 .nil)
 .nil))
 .nil))
 (.cons (.asg (.nm 7) (.lst .nil))
 (.cons (.for_ (.nm 8) (.rng (.cons (.p (.var 2)) .nil))
 (.cons (.asg (.nm 10) (.lc [12] (.nm 12) (.rng (.cons (.p (.var 1)) .nil)) .nil (.call (Str.ofString "_law_pick") [] (.cons (.p (.var 0)) (.cons (.lst (.cons (.p .non) (.cons (.p (.int 0)) (.cons (.p (.int 0)) (.cons (.p (.int 1)) (.cons (.o2 .add (.p (.int 1)) (.call (Str.ofString "_law_draw") [] (.cons (.p (.var 0)) (.cons (.p (.var 3)) .nil)))) .nil)))))) .nil)))))
 (.cons (.asg (.nm 11) (.call (Str.ofString "_law_draw") [] (.cons (.p (.var 0)) (.cons (.p (.var 1)) .nil))))
 (.cons (.setx 10 [] (.var 11) (.ife (.p (.o1 .ntN (.o2 .ix (.var 10) (.var 11)))) (.p (.o2 .ix (.var 10) (.var 11))) (.call (Str.ofString "_law_draw") [] (.cons (.p (.var 0)) (.cons (.p (.int 2)) .nil)))))
 (.cons (.app 7 [] (.mv 10))
 .nil)))))
 (.cons (.ret (.tup (.cons (.call (Str.ofString "_law_closed") [] (.cons (.p (.var 5)) .nil)) (.cons (.mv 7) .nil))))
 .nil)))))) }
def fn__law_store_fault : FnD := { ps := [Str.ofString "thing"], N := [Str.ofString "thing", Str.ofString "row", Str.ofString "ask", Str.ofString "every", Str.ofString "one", Str.ofString "ways", Str.ofString "asks", Str.ofString "other", Str.ofString "amid", Str.ofString "index", Str.ofString "toll", Str.ofString "part", Str.ofString "way"], md := [], body :=
 (.cons (.ifs (.or (.p (.o1 .not (.o1 (.isi ["list", "tuple"]) (.var 0)))) (.or (.p (.o2 .ne (.o1 .len (.var 0)) (.int 2))) (.o1 .not (.sq .all (.lc [11] (.nm 11) (.e (.p (.var 0))) .nil (.p (.and (.o1 (.isi ["list", "tuple"]) (.var 11)) (.o2 .gt (.o1 .len (.var 11)) (.int 0)))))))))
 (.cons (.ret (.tup (.cons (.p (.str (Str.ofString "form"))) .nil)))
 .nil)
 .nil)
 (.cons (.asg (.tup [5, 6]) (.mv 0))
 (.cons (.for_ (.nm 1) (.e (.p (.var 5)))
 (.cons (.ifs (.or (.p (.o1 .not (.o1 (.isi ["list", "tuple"]) (.var 1)))) (.or (.p (.o2 .ne (.o1 .len (.var 1)) (.o1 .len (.var 5)))) (.o1 .not (.sq .all (.lc [12] (.nm 12) (.e (.p (.var 1))) .nil (.call (Str.ofString "_law_is_number") [] (.cons (.p (.var 12)) .nil)))))))
 (.cons (.ret (.tup (.cons (.p (.str (Str.ofString "form"))) .nil)))
 .nil)
 .nil)
 .nil))
 (.cons (.for_ (.nm 2) (.e (.p (.var 6)))
 (.cons (.ifs (.or (.p (.o1 .not (.o1 (.isi ["list", "tuple"]) (.var 2)))) (.or (.p (.o2 .ne (.o1 .len (.var 2)) (.o1 .len (.var 5)))) (.o1 .not (.sq .all (.lc [10] (.nm 10) (.e (.p (.var 2))) .nil (.or (.p (.o1 .isN (.var 10))) (.call (Str.ofString "_law_is_number") [] (.cons (.p (.var 10)) .nil))))))))
 (.cons (.ret (.tup (.cons (.p (.str (Str.ofString "form"))) .nil)))
 .nil)
 .nil)
 .nil))
 (.cons (.asg (.nm 3) (.lr1 (.p (.o1 .len (.var 5)))))
 (.cons (.for_ (.nm 4) (.e (.p (.var 3)))
 (.cons (.for_ (.nm 7) (.e (.p (.var 3)))
 (.cons (.ifs (.p (.o2 .ne (.o2 .eq (.o2 .ix (.o2 .ix (.var 5) (.var 4)) (.var 7)) (.int 0)) (.o2 .eq (.var 4) (.var 7))))
 (.cons (.ret (.tup (.cons (.p (.str (Str.ofString "nought"))) (.cons (.mv 4) (.cons (.mv 7) .nil)))))
 .nil)
 .nil)
 .nil))
 .nil))
 (.cons (.for_ (.nm 4) (.e (.p (.var 3)))
 (.cons (.for_ (.nm 8) (.e (.p (.var 3)))
 (.cons (.for_ (.nm 7) (.e (.p (.var 3)))
 (.cons (.ifs (.p (.o2 .gt (.o2 .ix (.o2 .ix (.var 5) (.var 4)) (.var 7)) (.o2 .add (.o2 .ix (.o2 .ix (.var 5) (.var 4)) (.var 8)) (.o2 .ix (.o2 .ix (.var 5) (.var 8)) (.var 7)))))
 (.cons (.ret (.tup (.cons (.p (.str (Str.ofString "way"))) (.cons (.mv 4) (.cons (.mv 8) (.cons (.mv 7) .nil))))))
 .nil)
 .nil)
 .nil))
 .nil))
 .nil))
 (.cons (.for_ (.tup [9, 2]) (.enum (.p (.var 6)))
 (.cons (.ifs (.sq .all (.lc [10] (.nm 10) (.e (.p (.var 2))) .nil (.p (.o1 .isN (.var 10)))))
 (.cons (.ret (.tup (.cons (.p (.str (Str.ofString "ask"))) (.cons (.mv 9) .nil))))
 .nil)
 .nil)
 .nil))
 (.cons (.ret (.p .non))
 .nil))))))))) }
def fn__law_stream : FnD := { ps := [Str.ofString "script"], N := [Str.ofString "script"], md := [], body :=
 (.cons (.ret (.lst (.cons (.sq .list (.mv 0)) (.cons (.p (.int 0)) (.cons (.p (.int 0)) (.cons (.p (.int 17)) .nil))))))
 .nil) }
def fn_is_store : FnD := { ps := [Str.ofString "thing"], N := [Str.ofString "thing"], md := [], body :=
 (.cons (.ret (.o1 .ntN (.call (Str.ofString "kept_store") [] (.cons (.p (.var 0)) .nil))))
 .nil) }
def fn_store_fault : FnD := { ps := [Str.ofString "thing"], N := [Str.ofString "thing", Str.ofString "form"], md := [], body :=
 (.cons (.asg (.nm 1) (.call (Str.ofString "kept_form") [] (.cons (.p (.var 0)) .nil)))
 (.cons (.ret (.ife (.p (.o1 .isN (.var 1))) (.tup (.cons (.p (.str (Str.ofString "form"))) .nil)) (.call (Str.ofString "fault_of") [] (.cons (.p (.var 1)) .nil))))
 .nil)) }
def fn__law_pick : FnD := { ps := [Str.ofString "stream", Str.ofString "things"], N := [Str.ofString "stream", Str.ofString "things"], md := [true], body :=
 (.cons (.ret (.o2 .ix (.p (.var 1)) (.call (Str.ofString "_law_draw") [] (.cons (.p (.var 0)) (.cons (.p (.o1 .len (.var 1))) .nil)))))
 .nil) }
def fn__law_closed : FnD := { ps := [Str.ofString "ways"], N := [Str.ofString "ways", Str.ofString "by", Str.ofString "many", Str.ofString "found", Str.ofString "one", Str.ofString "other", Str.ofString "row"], md := [], body :=
 (.cons (.par [2, 3] (.cons (.p (.o1 .len (.var 0))) (.cons (.lc [6] (.nm 6) (.e (.p (.var 0))) .nil (.sq .list (.p (.var 6)))) .nil)))
 (.cons (.for_ (.nm 1) (.rng (.cons (.p (.var 2)) .nil))
 (.cons (.for_ (.nm 4) (.rng (.cons (.p (.var 2)) .nil))
 (.cons (.for_ (.nm 5) (.rng (.cons (.p (.var 2)) .nil))
 (.cons (.setx 3 [(.var 4)] (.var 5) (.p (.o2 .min (.o2 .ix (.o2 .ix (.var 3) (.var 4)) (.var 5)) (.o2 .add (.o2 .ix (.o2 .ix (.var 3) (.var 4)) (.var 1)) (.o2 .ix (.o2 .ix (.var 3) (.var 1)) (.var 5))))))
 .nil))
 .nil))
 .nil))
 (.cons (.ret (.mv 3))
 .nil))) }
def fn__law_is_number : FnD := { ps := [Str.ofString "thing"], N := [Str.ofString "thing"], md := [], body :=
 (.cons (.ret (.p (.and (.o1 (.isi ["int"]) (.var 0)) (.and (.o1 .not (.o1 (.isi ["bool"]) (.var 0))) (.o2 .ge (.var 0) (.int 0))))))
 .nil) }
def fn_kept_store : FnD := { ps := [Str.ofString "thing"], N := [Str.ofString "thing", Str.ofString "form"], md := [], body :=
 (.cons (.asg (.nm 1) (.call (Str.ofString "kept_form") [] (.cons (.p (.var 0)) .nil)))
 (.cons (.ret (.ife (.or (.p (.o1 .isN (.var 1))) (.o1 .ntN (.call (Str.ofString "fault_of") [] (.cons (.p (.var 1)) .nil)))) (.p .non) (.p (.var 1))))
 .nil)) }
def fn_fault_of : FnD := { ps := [Str.ofString "form"], N := [Str.ofString "form", Str.ofString "every", Str.ofString "one", Str.ofString "ways", Str.ofString "asks", Str.ofString "other", Str.ofString "amid", Str.ofString "index", Str.ofString "ask", Str.ofString "toll"], md := [], body :=
 (.cons (.asg (.tup [3, 4]) (.mv 0))
 (.cons (.asg (.nm 1) (.lr1 (.p (.o1 .len (.var 3)))))
 (.cons (.for_ (.nm 2) (.e (.p (.var 1)))
 (.cons (.for_ (.nm 5) (.e (.p (.var 1)))
 (.cons (.ifs (.p (.o2 .ne (.o2 .eq (.o2 .ix (.o2 .ix (.var 3) (.var 2)) (.var 5)) (.int 0)) (.o2 .eq (.var 2) (.var 5))))
 (.cons (.ret (.tup (.cons (.p (.str (Str.ofString "nought"))) (.cons (.mv 2) (.cons (.mv 5) .nil)))))
 .nil)
 .nil)
 .nil))
 .nil))
 (.cons (.for_ (.nm 2) (.e (.p (.var 1)))
 (.cons (.for_ (.nm 6) (.e (.p (.var 1)))
 (.cons (.for_ (.nm 5) (.e (.p (.var 1)))
 (.cons (.ifs (.p (.o2 .gt (.o2 .ix (.o2 .ix (.var 3) (.var 2)) (.var 5)) (.o2 .add (.o2 .ix (.o2 .ix (.var 3) (.var 2)) (.var 6)) (.o2 .ix (.o2 .ix (.var 3) (.var 6)) (.var 5)))))
 (.cons (.ret (.tup (.cons (.p (.str (Str.ofString "way"))) (.cons (.mv 2) (.cons (.mv 6) (.cons (.mv 5) .nil))))))
 .nil)
 .nil)
 .nil))
 .nil))
 .nil))
 (.cons (.for_ (.tup [7, 8]) (.enum (.p (.var 4)))
 (.cons (.ifs (.sq .all (.lc [9] (.nm 9) (.e (.p (.var 8))) .nil (.p (.o1 .isN (.var 9)))))
 (.cons (.ret (.tup (.cons (.p (.str (Str.ofString "ask"))) (.cons (.mv 7) .nil))))
 .nil)
 .nil)
 .nil))
 (.cons (.ret (.p .non))
 .nil)))))) }
def fn_kept_form : FnD := { ps := [Str.ofString "thing"], N := [Str.ofString "thing", Str.ofString "stands", Str.ofString "asks", Str.ofString "ask", Str.ofString "row", Str.ofString "way"], md := [], body :=
 (.cons (.ifs (.or (.o1 .not (.call (Str.ofString "is_row") [] (.cons (.p (.var 0)) (.cons (.p (.int 2)) .nil)))) (.or (.o1 .not (.call (Str.ofString "is_list") [] (.cons (.p (.o2 .ix (.var 0) (.int 0))) .nil))) (.o1 .not (.call (Str.ofString "is_list") [] (.cons (.p (.o2 .ix (.var 0) (.int 1))) .nil)))))
 (.cons (.ret (.p .non))
 .nil)
 .nil)
 (.cons (.asg (.nm 1) (.p (.o1 .len (.o2 .ix (.var 0) (.int 0)))))
 (.cons (.ifs (.p (.or (.o2 .eq (.var 1) (.int 0)) (.o2 .eq (.o1 .len (.o2 .ix (.var 0) (.int 1))) (.int 0))))
 (.cons (.ret (.p .non))
 .nil)
 .nil)
 (.cons (.ifs (.o1 .not (.sq .all (.lc [4] (.nm 4) (.e (.p (.o2 .ix (.var 0) (.int 0)))) .nil (.and (.call (Str.ofString "is_row") [] (.cons (.p (.var 4)) (.cons (.p (.var 1)) .nil))) (.sq .all (.lc [5] (.nm 5) (.e (.p (.var 4))) .nil (.call (Str.ofString "is_number") [] (.cons (.p (.var 5)) .nil))))))))
 (.cons (.ret (.p .non))
 .nil)
 .nil)
 (.cons (.asg (.nm 2) (.lc [3] (.nm 3) (.e (.p (.o2 .ix (.var 0) (.int 1)))) .nil (.call (Str.ofString "kept_tolls") [] (.cons (.p (.var 1)) (.cons (.p (.var 3)) .nil)))))
 (.cons (.ifs (.p (.o2 .isin .non (.var 2)))
 (.cons (.ret (.p .non))
 .nil)
 .nil)
 (.cons (.ret (.tup (.cons (.sq .tuple (.lc [4] (.nm 4) (.e (.p (.o2 .ix (.var 0) (.int 0)))) .nil (.sq .tuple (.p (.var 4))))) (.cons (.sq .tuple (.mv 2)) .nil))))
 .nil))))))) }
def fn_is_list : FnD := { ps := [Str.ofString "thing"], N := [Str.ofString "thing"], md := [], body :=
 (.cons (.ret (.p (.o1 (.isi ["list", "tuple"]) (.var 0))))
 .nil) }
def fn_is_number : FnD := { ps := [Str.ofString "thing"], N := [Str.ofString "thing"], md := [], body :=
 (.cons (.ret (.and (.call (Str.ofString "is_whole") [] (.cons (.p (.var 0)) .nil)) (.p (.o2 .ge (.var 0) (.int 0)))))
 .nil) }
def fn_is_row : FnD := { ps := [Str.ofString "thing", Str.ofString "many"], N := [Str.ofString "thing", Str.ofString "many"], md := [], body :=
 (.cons (.ret (.and (.call (Str.ofString "is_list") [] (.cons (.p (.var 0)) .nil)) (.p (.o2 .eq (.o1 .len (.var 0)) (.var 1)))))
 .nil) }
def fn_kept_tolls : FnD := { ps := [Str.ofString "stands", Str.ofString "thing"], N := [Str.ofString "stands", Str.ofString "thing", Str.ofString "toll"], md := [], body :=
 (.cons (.ifs (.or (.o1 .not (.call (Str.ofString "is_row") [] (.cons (.p (.var 1)) (.cons (.p (.var 0)) .nil)))) (.o1 .not (.sq .all (.lc [2] (.nm 2) (.e (.p (.var 1))) .nil (.or (.p (.o1 .isN (.var 2))) (.call (Str.ofString "is_number") [] (.cons (.p (.var 2)) .nil)))))))
 (.cons (.ret (.p .non))
 .nil)
 .nil)
 (.cons (.ret (.sq .tuple (.mv 1)))
 .nil)) }
def fn_is_whole : FnD := { ps := [Str.ofString "thing"], N := [Str.ofString "thing"], md := [], body :=
 (.cons (.ret (.p (.and (.o1 (.isi ["int"]) (.var 0)) (.o1 .not (.o1 (.isi ["bool"]) (.var 0))))))
 .nil) }
def bs : List Str := [Str.ofString "abs", Str.ofString "all", Str.ofString "bool", Str.ofString "dict", Str.ofString "enumerate", Str.ofString "int", Str.ofString "isinstance", Str.ofString "len", Str.ofString "list", Str.ofString "min", Str.ofString "range", Str.ofString "str", Str.ofString "tuple", Str.ofString "zip"]
def gs : List Str := []
def kl : List (Str × List Str) := [(Str.ofString "is_store", [Str.ofString "thing"]), (Str.ofString "store_fault", [Str.ofString "thing"])]
def T : Tab := [(Str.ofString "law", fn_law),
 (Str.ofString "_law_bent", fn__law_bent),
 (Str.ofString "_law_copied", fn__law_copied),
 (Str.ofString "_law_draw", fn__law_draw),
 (Str.ofString "_law_loose", fn__law_loose),
 (Str.ofString "_law_same", fn__law_same),
 (Str.ofString "_law_store", fn__law_store),
 (Str.ofString "_law_store_fault", fn__law_store_fault),
 (Str.ofString "_law_stream", fn__law_stream),
 (Str.ofString "is_store", fn_is_store),
 (Str.ofString "store_fault", fn_store_fault),
 (Str.ofString "_law_pick", fn__law_pick),
 (Str.ofString "_law_closed", fn__law_closed),
 (Str.ofString "_law_is_number", fn__law_is_number),
 (Str.ofString "kept_store", fn_kept_store),
 (Str.ofString "fault_of", fn_fault_of),
 (Str.ofString "kept_form", fn_kept_form),
 (Str.ofString "is_list", fn_is_list),
 (Str.ofString "is_number", fn_is_number),
 (Str.ofString "is_row", fn_is_row),
 (Str.ofString "kept_tolls", fn_kept_tolls),
 (Str.ofString "is_whole", fn_is_whole)]
def fs : List Str := T.map (·.1)
theorem c_law : chkFn fs bs gs kl fn_law (top 24) = true := by decide +kernel
theorem c__law_bent : chkFn fs bs gs kl fn__law_bent (top 23) = true := by decide +kernel
theorem c__law_copied : chkFn fs bs gs kl fn__law_copied (top 17) = true := by decide +kernel
theorem c__law_draw : chkFn fs bs gs kl fn__law_draw (top 14) = true := by decide +kernel
theorem c__law_loose : chkFn fs bs gs kl fn__law_loose (top 18) = true := by decide +kernel
theorem c__law_same : chkFn fs bs gs kl fn__law_same (top 16) = true := by decide +kernel
theorem c__law_store : chkFn fs bs gs kl fn__law_store (top 20) = true := by decide +kernel
theorem c__law_store_fault : chkFn fs bs gs kl fn__law_store_fault (top 21) = true := by decide +kernel
theorem c__law_stream : chkFn fs bs gs kl fn__law_stream (top 13) = true := by decide +kernel
theorem c_is_store : chkFn fs bs gs kl fn_is_store (top 10) = true := by decide +kernel
theorem c_store_fault : chkFn fs bs gs kl fn_store_fault (top 11) = true := by decide +kernel
theorem c__law_pick : chkFn fs bs gs kl fn__law_pick (top 15) = true := by decide +kernel
theorem c__law_closed : chkFn fs bs gs kl fn__law_closed (top 19) = true := by decide +kernel
theorem c__law_is_number : chkFn fs bs gs kl fn__law_is_number (top 22) = true := by decide +kernel
theorem c_kept_store : chkFn fs bs gs kl fn_kept_store (top 9) = true := by decide +kernel
theorem c_fault_of : chkFn fs bs gs kl fn_fault_of (top 8) = true := by decide +kernel
theorem c_kept_form : chkFn fs bs gs kl fn_kept_form (top 7) = true := by decide +kernel
theorem c_is_list : chkFn fs bs gs kl fn_is_list (top 1) = true := by decide +kernel
theorem c_is_number : chkFn fs bs gs kl fn_is_number (top 3) = true := by decide +kernel
theorem c_is_row : chkFn fs bs gs kl fn_is_row (top 4) = true := by decide +kernel
theorem c_kept_tolls : chkFn fs bs gs kl fn_kept_tolls (top 6) = true := by decide +kernel
theorem c_is_whole : chkFn fs bs gs kl fn_is_whole (top 2) = true := by decide +kernel
end K01
namespace K01
open PySem L2 Q
def tb : List (Str × List CV) := []
end K01

namespace K01
open PySem L2 Q
abbrev NN : Nat := 10 ^ 120
abbrev Z (m : Nat) : EnvQ := envN T (constG tb) NN m
theorem hNN : 100 < NN := by decide
theorem i_draw : DrawIs T := ⟨⟨fn__law_draw, by rfl, rfl, rfl, rfl, rfl, rfl⟩⟩
theorem i_pick : PickIs T := ⟨⟨fn__law_pick, by rfl, rfl, rfl, rfl, rfl, rfl⟩⟩
theorem i_cop : CopIs T := ⟨⟨fn__law_copied, by rfl, rfl, rfl, rfl, rfl, rfl⟩⟩
theorem i_loo : LooIs T := ⟨⟨fn__law_loose, by rfl, rfl, rfl, rfl, rfl, rfl⟩⟩
theorem i_fns : StFns T := ⟨⟨⟨fn_is_list, by rfl, rfl, rfl, rfl, rfl, rfl⟩⟩, ⟨⟨fn_is_whole, by rfl, rfl, rfl, rfl, rfl, rfl⟩⟩, ⟨⟨fn_is_number, by rfl, rfl, rfl, rfl, rfl, rfl⟩⟩, ⟨⟨fn_is_row, by rfl, rfl, rfl, rfl, rfl, rfl⟩⟩, ⟨⟨fn_kept_tolls, by rfl, rfl, rfl, rfl, rfl, rfl⟩⟩, ⟨⟨fn_kept_form, by rfl, rfl, rfl, rfl, rfl, rfl⟩⟩, ⟨⟨fn_fault_of, by rfl, rfl, rfl, rfl, rfl, rfl⟩⟩, ⟨⟨fn_kept_store, by rfl, rfl, rfl, rfl, rfl, rfl⟩⟩⟩
theorem i_isst : Is_is_store T := ⟨⟨fn_is_store, by rfl, rfl, rfl, rfl, rfl, rfl⟩⟩
theorem i_sf : Is_store_fault T := ⟨⟨fn_store_fault, by rfl, rfl, rfl, rfl, rfl, rfl⟩⟩
theorem i_lnum : Is_l_is_number T := ⟨⟨fn__law_is_number, by rfl, rfl, rfl, rfl, rfl, rfl⟩⟩
theorem i_lsf : Is_l_store_fault T := ⟨⟨fn__law_store_fault, by rfl, rfl, rfl, rfl, rfl, rfl⟩⟩
theorem i_lst : Is_l_store T := ⟨⟨fn__law_store, by rfl, rfl, rfl, rfl, rfl, rfl⟩⟩
theorem i_lcl : Is_l_closed T := ⟨⟨fn__law_closed, by rfl, rfl, rfl, rfl, rfl, rfl⟩⟩
theorem l_bent : T.lookup (Str.ofString "_law_bent") = some fn__law_bent := by rfl
theorem one_ss {V : EnvQ} {s : S} {L : Lcs} : runSs V (.cons s .nil) L = runS V s L := by
  rw [runs_cons]
  cases runS V s L <;> first | rfl | (simp only [RS.seq]; exact runs_nil _ _)
theorem ifs_F {V : EnvQ} {c : E} {a b : Ss} {L L1 : Lcs} (h : rdW V c (fun L => den V c L) L = .ok (.bl false, L1)) : runSs V (.cons (.ifs c a b) .nil) L = runSs V b L1 := by rw [one_ss, run_ifs, h]; rfl
theorem ifs_T {V : EnvQ} {c : E} {a b : Ss} {L L1 : Lcs} (h : rdW V c (fun L => den V c L) L = .ok (.bl true, L1)) : runSs V (.cons (.ifs c a b) .nil) L = runSs V a L1 := by rw [one_ss, run_ifs, h]; rfl
/-- a thing stored at a place of a matrix -/
theorem q_setD {V : EnvQ} {L L1 : Lcs} {s : Nat} {p k : P} {e : E} {W : List (List Nat)} {n i j : Nat} {x : D} (he : den V e L = .ok (x, L1)) (h0 : L1[s]? = some (some (mD W))) (hp : pur V.G p L1 = some (nD i)) (hk : pur V.G k L1 = some (nD j)) (hW : Dim n W) (hi : i < n) (hj : j < n) : runSs V (.cons (.setx s [p] k e) .nil) L = .nx (L1.set s (some (.lst true ((W.map (iL true)).set i (.lst true (((W.getD i []).map nD).set j x)))))) := by
  rw [one_ss, run_setx, he]
  have hwl : (W.map (iL true)).length = n := by rw [List.length_map]; exact hW.len
  have e1 : (W.map (iL true))[i]? = some (iL true (W.getD i [])) := by
    rw [List.getElem?_map, show W[i]? = some (W.getD i []) by simp [show i < W.length by rw [hW.len]; exact hi]]; rfl
  unfold mD at h0
  simp only [Res.seq, setxRun, h0, pathInts, hp, hk, updPath, hwl, ixN_ok hi, e1, List.length_map, hW.at hi, ixN_ok hj, RS.of]
theorem small_set {k : Nat} {ds : List D} {i : Nat} {x : D} (hl : ds.length ≤ 20) (h : ∀ y ∈ ds, small k y = true) (hx : small k x = true) : small (k + 1) (.lst true (ds.set i x)) = true := by
  refine (small_seq (by rw [List.length_set]; exact hl) fun y hy => ?_).1
  rcases List.mem_or_eq_of_mem_set hy with hy | rfl
  · exact h y hy
  · exact hx
theorem keep_own {V : EnvQ} {L : Lcs} {i : Nat} {d : D} (h : L[i]? = some (some d)) (hn : d.noOwn = false) : den V (.p (.var i)) L = .ok (d.fz, L.set i (some d.fz)) := by
  rw [den_p]
  have e : pur V.G (.var i) L = some d := by simp only [pur, h]
  unfold keepP
  rw [e]
  simp only [hn, Bool.false_eq_true, if_false, P.root, fzAt, h]
/-- a list of some things again and again -/
theorem x_rep1 {V : EnvQ} {L : Lcs} {p q : P} {d : D} {n : Nat} (hp : pur V.G p L = some d) (hf : flatD d = true) (h : pur V.G q L = some (nD n)) (hn : n ≤ 1000) : den V (.rep (.lst (.cons (.p p) .nil)) (.p q)) L = .ok (.lst true (List.replicate n d), L) := by
  have hno : d.noOwn = true := by cases d <;> first | rfl | cases hf
  rw [den_rep, x_lst (q_cons (keepD hp hno) q_end)]
  simp only [Res.bind]
  rw [rdP h]
  have ef : (List.replicate n [d]).flatten = List.replicate n d := by
    clear h hn
    induction n with
    | zero => rfl
    | succ n ih => rw [List.replicate_succ, List.flatten_cons, ih, List.replicate_succ]; rfl
  have e : repRun (.lst true [d]) (nD n) = some (.lst true (List.replicate n d)) := by
    simp only [repRun]
    rw [if_pos]
    · rw [Int.toNat_natCast, ef]
    · simp only [D.noOwns, hno, Bool.and_self, Bool.true_and, List.length_cons, List.length_nil, Bool.and_eq_true, decide_eq_true_eq, Int.toNat_natCast]
      omega
  simp only [e, Res.of]
theorem small_rep {k n : Nat} {b : Bool} {d : D} (hf : flatD d = true) (hn : n ≤ 20) : small (k + 1) (.lst b (List.replicate n d)) = true :=
  (small_seq (by rw [List.length_replicate]; exact hn) fun x hx => by obtain ⟨_, rfl⟩ := List.mem_replicate.mp hx; exact small_flat hf k).1
theorem flat_noOwn {d : D} (h : flatD d = true) : d.noOwn = true ∧ d.fz = d := by cases d <;> first | exact ⟨rfl, rfl⟩ | cases h
theorem fzs_flat {ds : List D} (h : ∀ x ∈ ds, flatD x = true) : D.fzs ds = ds := by
  rw [fzs_eq]
  exact (List.map_congr_left fun x hx => (flat_noOwn (h x hx)).2).trans (List.map_id ds)
end K01

namespace K01
open PySem L2 Q
theorem x_pick {m : Nat} {L L1 : Lcs} {S0 S : D} {n : Nat} {e : E} {ds : List D} (s : StOk S n) (hn : n < 900000000000) (he : den (Z (m + 2)) e L = .ok (.lst true ds, L1)) (h0 : L[0]? = some (some S0)) (h1 : L1[0]? = some (some S)) (hl : 0 < ds.length ∧ ds.length < 1000) (hv : notVar e = true := by rfl) :
    ∃ S' x, StOk S' (n + 1) ∧ x ∈ D.fzs ds ∧ den (Z (m + 2)) (.call nPick [] (.cons (.p (.var 0)) (.cons e .nil))) L = .ok (x, L1.set 0 (some S')) := by
  have hf : (D.lst false (D.fzs ds)).noOwn = true := noOwn_fz (.lst true ds)
  obtain ⟨S', x, s', hx, c⟩ := pick_ok (G := constG tb) (N0 := NN) (m := m) i_pick i_draw hNN s hn hf (by rw [fzs_eq, List.length_map]; exact hl)
  refine ⟨S', x, s', hx, calFio i_pick h0 (a_val he a_end hv) c rfl (Ly := L1.set 0 none) (avI h1 (avV (by rw [D.fz]) avE)) rfl ?_⟩
  split <;> (simp only [putBack, List.set_set, fzLent])
abbrev E0 : E := (.lst (.cons (.p .non) (.cons (.p (.o1 .neg (.int 1))) (.cons (.p (.bl true)) (.cons (.p (.str (Str.ofString "1"))) (.cons (.p (.int 0)) (.cons (.p (.int 3)) (.cons (.p (.o2 .pow (.int 10) (.int 30))) .nil))))))))
abbrev E3 : E := (.lst (.cons (.p .non) (.cons (.lst .nil) (.cons (.rep (.lst (.cons (.p .non) .nil)) (.p (.var 5))) (.cons (.rep (.lst (.cons (.p (.int 0)) .nil)) (.p (.o2 .add (.var 5) (.int 1)))) (.cons (.rep (.lst (.cons (.p (.bl true)) .nil)) (.p (.var 5))) (.cons (.rep (.lst (.cons (.p (.o1 .neg (.int 1))) .nil)) (.p (.var 5))) (.cons (.p (.str (Str.ofString "ab"))) .nil))))))))
abbrev E5 : E := (.lst (.cons (.p .non) (.cons (.p (.int 5)) (.cons (.p (.str (Str.ofString "ab"))) (.cons .dct (.cons (.lst .nil) (.cons (.tup (.cons (.p (.var 2)) .nil)) (.cons (.tup (.cons (.p (.var 2)) (.cons (.lst .nil) .nil))) (.cons (.tup (.cons (.lst .nil) (.cons (.p (.var 3)) .nil))) (.cons (.tup (.cons (.p (.var 2)) (.cons (.p (.var 3)) (.cons (.p (.int 0)) .nil)))) (.cons (.tup (.cons (.p .non) (.cons (.p (.var 3)) .nil))) (.cons (.tup (.cons (.p (.var 2)) (.cons (.p .non) .nil))) (.cons (.tup (.cons (.p (.var 3)) (.cons (.p (.var 2)) .nil))) .nil)))))))))))))
abbrev E7 : E := (.lst (.cons (.p .non) (.cons (.lst .nil) (.cons (.sq .tuple (.p (.o2 .ix (.var 2) (.var 6)))) (.cons (.catl (.o2 .ix (.var 2) (.var 6)) [(.int 0)]) .nil)))))
def HdOk (d : D) : Prop := ∀ w b, d.els = some [w, b] → d = .tup [w, b]
/-- what a turn of bending ends with -/
def Out (c : Nat) (St A W O1 O2 O3 : D) (r : RS) : Prop :=
  (∃ S w a, r = .nx [some S, some St, some w, some a, some O1, some O2, some O3, some W] ∧ StOk S c ∧ small 3 w = true ∧ small 3 a = true) ∨ (∃ S d L', r = .rt d (some S :: L') ∧ StOk S c ∧ small 4 d = true ∧ HdOk d)
section
variable {m c n q : Nat} {S : D} {W : List (List Nat)} {A : List (List (Option Nat))}
theorem flat_small3 {w : D} : flatD w = true → small 3 w = true := fun h => small_flat h 3
theorem bent_run (h : Store n q W A) (hn : n ≤ 6) (hA : A.length ≤ 4) (s : StOk S c) (hc : c < 800000000000) {way one other : Nat} (hw : way < 8) (ho : one < n) (hot : other < n) :
    Out (c + 5) (stF W A) D.non (nD other) (nD way) (nD n) (nD one) (runSs (Z (m + 2)) (match fn__law_bent.body with | .cons _ (.cons _ (.cons _ (.cons s _))) => .cons s .nil | _ => .nil) [some S, some (stF W A), some (mD W), some (.lst true (A.map (oL true))), some (nD way), some (nD n), some (nD one), some (nD other)]) := by
  let mk (S w a : D) : Lcs := [some S, some (stF W A), some w, some a, some (nD way), some (nD n), some (nD one), some (nD other)]
  let aD : D := .lst true (A.map (oL true))
  have hdim := h.cl.dim
  have hal : ∀ a ∈ A, a.length ≤ 20 := fun a ha => by rw [(h.ask a ha).len]; omega
  have sW : small 3 (mD W) = true := small_mD (k := 1) hdim (by omega)
  have sA : small 3 aD = true := small_aD (k := 1) hal (by omega)
  have sF : small 3 (mF W) = true := small_mD (k := 1) hdim (by omega)
  have hWl : ∀ x ∈ W.map (iL true), small 2 x = true := fun x hx => by
    obtain ⟨y, hy, rfl⟩ := List.mem_map.mp hx
    exact small_iL (by rw [hdim.row y hy]; omega)
  have hrow : ∀ x : D, small 1 x = true → small 2 (.lst true (((W.getD one []).map nD).set other x)) = true := fun x hx => small_set (by rw [List.length_map, hdim.at ho]; omega) (fun y hy => small_flat (flat_nD _ y hy) 1) hx
  have fin : ∀ x : D, small 1 x = true → small 3 (.lst true ((W.map (iL true)).set one (.lst true (((W.getD one []).map nD).set other x)))) = true := fun x hx => small_set (by rw [List.length_map, hdim.len]; omega) hWl (hrow x hx)
  have cnd : ∀ (k : Nat) {V : EnvQ} {S w a : D}, pur V.G (.o2 .eq (.var 4) (.int (k : Int))) (mk S w a) = some (.bl (decide (way = k))) := fun k {V S w a} => eqN (a := way) (b := k) rfl rfl
  have go : ∀ (k : Nat) {V : EnvQ} {a b : Ss} {S w x : D}, runSs V (.cons (.ifs (.p (.o2 .eq (.var 4) (.int (k : Int)))) a b) .nil) (mk S w x) = if way = k then runSs V a (mk S w x) else runSs V b (mk S w x) := fun k {V a b S w x} => by
    by_cases hk : way = k
    · rw [if_pos hk]; exact ifs_T (rdP (by rw [cnd k, decide_eq_true hk]))
    · rw [if_neg hk]; exact ifs_F (rdP (by rw [cnd k, decide_eq_false hk]))
  show Out _ _ _ _ _ _ _ (runSs (Z (m + 2)) (.cons (.ifs (.p (.o2 .eq (.var 4) (.int ((0 : Nat) : Int)))) _ _) .nil) (mk S (mD W) aD))
  rw [go 0]
  by_cases h0 : way = 0
  · rw [if_pos h0]
    obtain ⟨S', x, s', hx, e⟩ := x_pick (m := m) (e := E0) (L := mk S (mD W) aD) (S := S) s (by omega) (ds := [.non, .int (-1), .bl true, .str (Str.ofString "1"), .int 0, .int 3, .int ((10 : Int) ^ (30 : Int).toNat)]) (x_lst (q_cons (keepD rfl rfl) (q_cons (keepD rfl rfl) (q_cons (keepD rfl rfl) (q_cons (keepD rfl rfl) (q_cons (keepD rfl rfl) (q_cons (keepD rfl rfl) (q_cons (keepD ((pur2 (d := .int 10) (e := .int 30) rfl rfl).trans (ap_pow ⟨by decide, by decide, by decide⟩)) rfl) q_end)))))))) rfl rfl ⟨by simp, by simp⟩
    have fx : flatD x = true := by
      simp only [D.fzs, D.fz, List.mem_cons, List.not_mem_nil, or_false] at hx
      rcases hx with rfl | rfl | rfl | rfl | rfl | rfl | rfl <;> rfl
    refine .inl ⟨S', _, aD, q_setD e rfl rfl rfl hdim ho hot, s'.up (by omega), fin x (small_flat fx 1), sA⟩
  · rw [if_neg h0]
    show Out _ _ _ _ _ _ _ (runSs (Z (m + 2)) (.cons (.ifs (.p (.o2 .eq (.var 4) (.int ((1 : Nat) : Int)))) _ _) .nil) (mk S (mD W) aD))
    rw [go 1]
    by_cases h1 : way = 1
    · rw [if_pos h1]
      have cn : pur (Z (m + 2)).G (.o2 .ne (.var 6) (.var 7)) (mk S (mD W) aD) = some (.bl (!decide (one = other))) := neN (a := one) (b := other) rfl rfl
      have key : ∃ v, den (Z (m + 2)) (.ife (.p (.o2 .ne (.var 6) (.var 7))) (.p (.int 0)) (.p (.int 1))) (mk S (mD W) aD) = .ok (nD v, mk S (mD W) aD) := by
        cases hb : (!decide (one = other)) with
        | true => rw [hb] at cn; exact ⟨0, x_ifT (rdP cn) (keepD rfl rfl)⟩
        | false => rw [hb] at cn; exact ⟨1, x_ifF (rdP cn) (keepD rfl rfl)⟩
      obtain ⟨v, e⟩ := key
      exact .inl ⟨S, _, aD, q_setD e rfl rfl rfl hdim ho hot, s.up (by omega), fin _ rfl, sA⟩
    · rw [if_neg h1]
      show Out _ _ _ _ _ _ _ (runSs (Z (m + 2)) (.cons (.ifs (.p (.o2 .eq (.var 4) (.int ((2 : Nat) : Int)))) _ _) .nil) (mk S (mD W) aD))
      rw [go 2]
      by_cases h2 : way = 2
      · rw [if_pos h2]
        have e : den (Z (m + 2)) (.p (.o2 .add (.o2 .ix (.o2 .ix (.var 2) (.var 6)) (.var 7)) (.int 40))) (mk S (mD W) aD) = .ok (nD (g2 W one other + 40), mk S (mD W) aD) := keepD (addN (p_g2 (wd := mD W) (ws := W.map (iL true)) rfl rfl (rows_mD true W) rfl rfl (by rw [hdim.len]; exact ho) (by rw [hdim.at ho]; exact hot)) rfl) rfl
        exact .inl ⟨S, _, aD, q_setD e rfl rfl rfl hdim ho hot, s.up (by omega), fin _ rfl, sA⟩
      · rw [if_neg h2]
        show Out _ _ _ _ _ _ _ (runSs (Z (m + 2)) (.cons (.ifs (.p (.o2 .eq (.var 4) (.int ((3 : Nat) : Int)))) _ _) .nil) (mk S (mD W) aD))
        rw [go 3]
        by_cases h3 : way = 3
        · rw [if_pos h3]
          obtain ⟨S', x, s', hx, e⟩ := x_pick (m := m) (e := E3) (L := mk S (mD W) aD) (S := S) s (by omega) (ds := [.non, .lst true [], .lst true (List.replicate n .non), iL true (List.replicate (n + 1) 0), .lst true (List.replicate n (.bl true)), .lst true (List.replicate n (.int (-1))), .str (Str.ofString "ab")]) (x_lst (q_cons (keepD rfl rfl) (q_cons (x_lst q_end) (q_cons (x_rep1 rfl rfl rfl (by omega)) (q_cons (x_rep0 (addN rfl rfl) (by omega)) (q_cons (x_rep1 rfl rfl rfl (by omega)) (q_cons (x_rep1 (d := .int (-1)) rfl rfl rfl (by omega)) (q_cons (keepD rfl rfl) q_end)))))))) rfl rfl ⟨by simp, by simp⟩
          have fx : small 2 x = true := by
            simp only [fzs_eq, List.mem_map, List.mem_cons, List.not_mem_nil, or_false] at hx
            obtain ⟨y, hy, rfl⟩ := hx
            refine small_fz 2 ?_
            rcases hy with rfl | rfl | rfl | rfl | rfl | rfl | rfl
            · rfl
            · rfl
            · exact small_rep rfl (by omega)
            · exact small_iL (by rw [List.length_replicate]; omega)
            · exact small_rep rfl (by omega)
            · exact small_rep rfl (by omega)
            · rfl
          obtain ⟨S2, j, s2, hj, cd⟩ := x_drw (G := constG tb) (N0 := NN) (m := m + 1) i_draw hNN s' (by omega) (M := A.length) ⟨h.ap, by omega⟩ (L := mk S' (mD W) aD) (i := 0) (e := .p (.o1 .len (.var 3))) rfl (keepD ((p_len (d := aD) (ds := A.map (oL true)) rfl rfl).trans (by rw [List.length_map])) rfl)
          refine .inl ⟨S2, mD W, .lst true ((A.map (oL true)).set j x), ?_, s2.up (by omega), sW, small_set (by rw [List.length_map]; omega) (fun y hy => by obtain ⟨z, hz, rfl⟩ := List.mem_map.mp hy; exact small_oL (hal z hz)) fx⟩
          show runSs (Z (m + 2)) (.cons (.setE 3 _ _) .nil) (mk S (mD W) aD) = _
          rw [one_ss, run_setE]
          rw [show den (Z (m + 2)) (.call (Str.ofString "_law_pick") [] _) (mk S (mD W) aD) = _ from e]
          simp only [Res.seq]
          have hl3 : lstAt ((mk S (mD W) aD).set 0 (some S')) 3 = some () := rfl
          rw [hl3]
          simp only [Res.of, Res.seq]
          rw [show den (Z (m + 2)) (.call (Str.ofString "_law_draw") [] (.cons (.p (.var 0)) (.cons (.p (.o1 .len (.var 3))) .nil))) ((mk S (mD W) aD).set 0 (some S')) = _ from cd]
          have h33 : ((mk S' (mD W) aD).set 0 (some S2))[3]? = some (some (.lst true (A.map (oL true)))) := rfl
          simp only [setKRun, h33, List.length_map, ixN_ok hj, RS.of]
          rfl
        · rw [if_neg h3]
          show Out _ _ _ _ _ _ _ (runSs (Z (m + 2)) (.cons (.ifs (.p (.o2 .eq (.var 4) (.int ((4 : Nat) : Int)))) _ _) .nil) (mk S (mD W) aD))
          rw [go 4]
          have hno : (mD W).noOwn = false := rfl
          by_cases h4 : way = 4
          · rw [if_pos h4]
            refine .inl ⟨S, .lst true (cutP (W.map (iL false)) (some 1) none), aD, ?_, s.up (by omega), ?_, sA⟩
            · show runSs (Z (m + 2)) (.cons (.asg (.nm 2) (.slice (.p (.var 2)) (.cons (.p (.int 1)) .nil) .nil)) .nil) (mk S (mD W) aD) = _
              refine q_asg (L1 := mk S (mF W) aD) ?_ q_nil
              rw [den_slice]
              have hW0 : D.noOwns (W.map (iL true)) = false := by
                have := hdim.len
                have := h.pos
                cases W with
                | nil => simp at *; omega
                | cons r W => rfl
              have e1 : seqW (Z (m + 2)) (.p (.var 2)) (fun L => den (Z (m + 2)) (.p (.var 2)) L) (mk S (mD W) aD) = .ok (mF W, mk S (mF W) aD) := by
                have e0 : pur (Z (m + 2)).G (.var 2) (mk S (mD W) aD) = some (mD W) := rfl
                have e2 : (mD W).els = some (W.map (iL true)) := rfl
                unfold seqW
                simp only [e0, e2, hW0, Bool.false_eq_true, if_false]
                rw [keep_own (d := mD W) rfl rfl, mD_fz]
                rfl
              rw [e1]
              rfl
            · refine (small_seq ?_ fun x hx => ?_).1
              · unfold cutP
                rw [List.length_take, List.length_drop, List.length_map, hdim.len]
                omega
              · have := List.mem_of_mem_drop (List.mem_of_mem_take hx)
                obtain ⟨y, hy, rfl⟩ := List.mem_map.mp this
                exact small_iL (by rw [hdim.row y hy]; omega)
          · rw [if_neg h4]
            show Out _ _ _ _ _ _ _ (runSs (Z (m + 2)) (.cons (.ifs (.p (.o2 .eq (.var 4) (.int ((5 : Nat) : Int)))) _ _) .nil) (mk S (mD W) aD))
            rw [go 5]
            by_cases h5 : way = 5
            · rw [if_pos h5]
              let aF : D := .lst false (A.map (oL false))
              have afz : aD.fz = aF := by
                show D.lst false (D.fzs (A.map (oL true))) = _
                rw [fzs_eq, List.map_map]
                exact congrArg _ (List.map_congr_left fun x _ => oL_fz true x)
              have affz : aF.fz = aF := by rw [← afz, fzfz]
              have kw : ∀ {a : D}, den (Z (m + 2)) (.p (.var 2)) (mk S (mF W) a) = .ok (mF W, mk S (mF W) a) := keepD rfl (no_of_fz (mF_fz W))
              have ka : ∀ {w : D}, den (Z (m + 2)) (.p (.var 3)) (mk S w aF) = .ok (aF, mk S w aF) := keepD rfl (no_of_fz affz)
              have kw0 : den (Z (m + 2)) (.p (.var 2)) (mk S (mD W) aD) = .ok (mF W, mk S (mF W) aD) := by rw [keep_own (d := mD W) rfl rfl, mD_fz]; rfl
              have ka0 : den (Z (m + 2)) (.p (.var 3)) (mk S (mF W) aD) = .ok (aF, mk S (mF W) aF) := by rw [keep_own (d := aD) rfl rfl, afz]; rfl
              have sAF : small 3 aF = true := small_aD (k := 1) hal (by omega)
              obtain ⟨S', x, s', hx, e⟩ := x_pick (m := m) (e := E5) (L := mk S (mD W) aD) (L1 := mk S (mF W) aF) (S := S) s (by omega) (ds := [.non, .int 5, .str (Str.ofString "ab"), .dic true [] [], .lst true [], .tup [mF W], .tup [mF W, .lst true []], .tup [.lst true [], aF], .tup [mF W, aF, .int 0], .tup [.non, aF], .tup [mF W, .non], .tup [aF, mF W]]) (x_lst (q_cons (keepD rfl rfl) (q_cons (keepD rfl rfl) (q_cons (keepD rfl rfl) (q_cons (den_dct _ _) (q_cons (x_lst q_end) (q_cons (x_tup (q_cons kw0 q_end)) (q_cons (x_tup (q_cons kw (q_cons (x_lst q_end) q_end))) (q_cons (x_tup (q_cons (x_lst q_end) (q_cons ka0 q_end))) (q_cons (x_tup (q_cons kw (q_cons ka (q_cons (keepD rfl rfl) q_end)))) (q_cons (x_tup (q_cons (keepD rfl rfl) (q_cons ka q_end))) (q_cons (x_tup (q_cons kw (q_cons (keepD rfl rfl) q_end))) (q_cons (x_tup (q_cons ka (q_cons kw q_end))) q_end))))))))))))) rfl rfl ⟨by simp, by simp⟩
              have t1 : ∀ {a : D}, small 3 a = true → small 4 (.tup [a]) = true := fun ha => (small_seq (b := true) (by simp) fun x hx => by simp only [List.mem_cons, List.not_mem_nil, or_false] at hx; subst hx; exact ha).2
              have t2 : ∀ {a b : D}, small 3 a = true → small 3 b = true → small 4 (.tup [a, b]) = true := fun ha hb => (small_seq (b := true) (by simp) fun x hx => by
                simp only [List.mem_cons, List.not_mem_nil, or_false] at hx
                rcases hx with rfl | rfl
                · exact ha
                · exact hb).2
              have t3 : ∀ {a b c : D}, small 3 a = true → small 3 b = true → small 3 c = true → small 4 (.tup [a, b, c]) = true := fun ha hb hc => (small_seq (b := true) (by simp) fun x hx => by
                simp only [List.mem_cons, List.not_mem_nil, or_false] at hx
                rcases hx with rfl | rfl | rfl
                · exact ha
                · exact hb
                · exact hc).2
              have fx : small 4 x = true ∧ HdOk x := by
                simp only [fzs_eq, List.mem_map, List.mem_cons, List.not_mem_nil, or_false] at hx
                obtain ⟨y, hy, rfl⟩ := hx
                rcases hy with rfl | rfl | rfl | rfl | rfl | rfl | rfl | rfl | rfl | rfl | rfl | rfl
                · exact ⟨rfl, fun w b hz => by cases hz⟩
                · exact ⟨rfl, fun w b hz => by cases hz⟩
                · exact ⟨rfl, fun w b hz => by cases hz⟩
                · exact ⟨rfl, fun w b hz => by cases hz⟩
                · exact ⟨rfl, fun w b hz => by cases hz⟩
                · exact ⟨small_fz 4 (t1 sF), fun w b hz => by cases hz⟩
                · exact ⟨small_fz 4 (t2 sF rfl), fun w b hz => by cases hz; rfl⟩
                · exact ⟨small_fz 4 (t2 rfl sAF), fun w b hz => by cases hz; rfl⟩
                · exact ⟨small_fz 4 (t3 sF sAF rfl), fun w b hz => by cases hz⟩
                · exact ⟨small_fz 4 (t2 rfl sAF), fun w b hz => by cases hz; rfl⟩
                · exact ⟨small_fz 4 (t2 sF rfl), fun w b hz => by cases hz; rfl⟩
                · exact ⟨small_fz 4 (t2 sAF sF), fun w b hz => by cases hz; rfl⟩
              exact .inr ⟨S', x, _, q_ret e, s'.up (by omega), fx.1, fx.2⟩
            · rw [if_neg h5]
              show Out _ _ _ _ _ _ _ (runSs (Z (m + 2)) (.cons (.ifs (.p (.o2 .eq (.var 4) (.int ((6 : Nat) : Int)))) _ _) .nil) (mk S (mD W) aD))
              rw [go 6]
              by_cases h6 : way = 6
              · rw [if_pos h6]
                refine .inl ⟨S, mD W, .lst true (A.map (oL true) ++ [iL true (List.replicate n 0)]), q_asg (x_cat (x_mv (d := aD) rfl) (x_lst (q_cons (x_rep0 (n := n) rfl (by omega)) q_end)) (by rw [List.length_map]; simp; omega)) q_nil, s.up (by omega), sW, ?_⟩
                refine (small_seq (by rw [List.length_append, List.length_map]; simp; omega) fun x hx => ?_).1
                rcases List.mem_append.mp hx with hx | hx
                · obtain ⟨z, hz, rfl⟩ := List.mem_map.mp hx; exact small_oL (hal z hz)
                · obtain rfl := List.mem_singleton.mp hx
                  exact small_iL (by rw [List.length_replicate]; omega)
              · rw [if_neg h6]
                have pr : pur (Z (m + 2)).G (.o2 .ix (.var 2) (.var 6)) (mk S (mD W) aD) = some (iL true (W.getD one [])) := p_ix (d := mD W) (ds := W.map (iL true)) rfl rfl (i := one) rfl (by rw [List.getElem?_map, show W[one]? = some (W.getD one []) by simp [show one < W.length by rw [hdim.len]; exact ho]]; rfl)
                have ecat : den (Z (m + 2)) (.catl (.o2 .ix (.var 2) (.var 6)) [.int 0]) (mk S (mD W) aD) = .ok (.lst true ((W.getD one []).map nD ++ [.int 0]), mk S (mD W) aD) := by
                  rw [den_catl]
                  have hr := hdim.at ho
                  have : catlRun (Z (m + 2)).G (.o2 .ix (.var 2) (.var 6)) [.int 0] (mk S (mD W) aD) = some (.lst true ((W.getD one []).map nD ++ [.int 0]), mk S (mD W) aD) := by
                    unfold catlRun
                    rw [pr]
                    simp only [pursO, pur]
                    rw [if_pos]
                    simp only [noOwnN, List.all_cons, List.all_nil, flatD, Bool.and_self, Bool.true_and, decide_eq_true_eq, List.length_map, List.length_cons, List.length_nil]
                    omega
                  rw [this]; rfl
                obtain ⟨S', x, s', hx, e⟩ := x_pick (m := m) (e := E7) (L := mk S (mD W) aD) (S := S) s (by omega) (ds := [.non, .lst true [], tL (W.getD one []), .lst true ((W.getD one []).map nD ++ [.int 0])]) (x_lst (q_cons (keepD rfl rfl) (q_cons (x_lst q_end) (q_cons (x_sqTup pr rfl (noOwnN _)) (q_cons ecat q_end))))) rfl rfl ⟨by simp, by simp⟩
                have fx : small 2 x = true := by
                  simp only [fzs_eq, List.mem_map, List.mem_cons, List.not_mem_nil, or_false] at hx
                  obtain ⟨y, hy, rfl⟩ := hx
                  refine small_fz 2 ?_
                  have hr := hdim.at ho
                  rcases hy with rfl | rfl | rfl | rfl
                  · rfl
                  · rfl
                  · exact (small_seq (b := true) (by rw [List.length_map]; omega) fun x hx => small_flat (flat_nD _ x hx) 1).2
                  · refine (small_seq (by rw [List.length_append, List.length_map, List.length_cons, List.length_nil]; omega) fun x hx => ?_).1
                    rcases List.mem_append.mp hx with hx | hx
                    · exact small_flat (flat_nD _ x hx) 1
                    · obtain rfl := List.mem_singleton.mp hx; rfl
                refine .inl ⟨S', .lst true ((W.map (iL true)).set one x), aD, ?_, s'.up (by omega), small_set (by rw [List.length_map, hdim.len]; omega) hWl fx, sA⟩
                show runSs (Z (m + 2)) (.cons (.setx 2 [] (.var 6) _) .nil) (mk S (mD W) aD) = _
                rw [one_ss, run_setx]
                rw [show den (Z (m + 2)) (.call (Str.ofString "_law_pick") [] _) (mk S (mD W) aD) = _ from e]
                have h22 : ((mk S (mD W) aD).set 0 (some S'))[2]? = some (some (.lst true (W.map (iL true)))) := rfl
                have h66 : pur (Z (m + 2)).G (.var 6) ((mk S (mD W) aD).set 0 (some S')) = some (.int (one : Int)) := rfl
                simp only [Res.seq, setxRun, h22, pathInts, h66, updPath, List.length_map, hdim.len, ixN_ok ho, RS.of]
                rfl
/-- a store bent -/
theorem bent_ok (h : Store n q W A) (hn : n ≤ 6) (hA : A.length ≤ 4) (s : StOk S c) (hc : c < 700000000000) : ∃ S' d, StOk S' (c + 10) ∧ small 4 d = true ∧ HdOk d ∧ (Z (m + 5)).call (Str.ofString "_law_bent") [S, stF W A] = .ok (d, [some S']) := by
  have np := h.pos
  have ccp := copied_ok (G := constG tb) (N0 := NN) i_cop 3 (m + 4) (by omega) (d := stF W A) ⟨small_st h (by omega) (by omega), stF_fz W A⟩
  rw [stF_ow] at ccp
  let aD : D := .lst true (A.map (oL true))
  let L0 : Lcs := [some S, some (stF W A), none, none, none, none, none, none]
  have e1 : den (Z (m + 4)) (.call nCop [] (.cons (.p (.var 1)) .nil)) L0 = .ok (stD W A, L0) := by
    refine calF i_cop (a_bor rfl a_end) ccp rfl (av1 rfl (stF_fz W A)) rfl ?_
    rw [stD_sh]; rfl
  obtain ⟨S1, way, s1, hw, c1⟩ := x_drw (G := constG tb) (N0 := NN) (m := m + 3) i_draw hNN s (by omega) (M := 8) (by omega) (L := [some S, some (stF W A), some (mD W), some aD, none, none, none, none]) (i := 0) (e := .p (.int 8)) rfl (keepD rfl rfl)
  have e2 : pur (Z (m + 4)).G (.o1 .len (.o2 .ix (.var 1) (.int 0))) [some S1, some (stF W A), some (mD W), some aD, none, none, none, none] = some (nD n) := (p_len (d := mF W) (ds := W.map (iL false)) (p_ix (d := stF W A) (ds := [mF W, .lst false (A.map (oL false))]) rfl rfl (i := 0) rfl rfl) rfl).trans (by rw [List.length_map, h.cl.dim.len])
  obtain ⟨S2, one, s2, ho, c2⟩ := x_drv (G := constG tb) (N0 := NN) (m := m + 3) i_draw hNN s1 (by omega) (M := n) (by omega) (L := [some S1, some (stF W A), some (mD W), some aD, some (nD way), some (nD n), none, none]) (i := 0) (j0 := 5) (by decide) rfl rfl
  obtain ⟨S3, other, s3, hot, c3⟩ := x_drv (G := constG tb) (N0 := NN) (m := m + 3) i_draw hNN s2 (by omega) (M := n) (by omega) (L := [some S2, some (stF W A), some (mD W), some aD, some (nD way), some (nD n), none, none]) (i := 0) (j0 := 5) (by decide) rfl rfl
  have out := bent_run (m := m + 2) h hn hA s3 (by omega) hw ho hot
  have hbody : fn__law_bent.body = .cons (.asg (.tup [2, 3]) (.call (Str.ofString "_law_copied") [] (.cons (.p (.var 1)) .nil))) (.cons (.par [4, 5] (.cons (.call (Str.ofString "_law_draw") [] (.cons (.p (.var 0)) (.cons (.p (.int 8)) .nil))) (.cons (.p (.o1 .len (.o2 .ix (.var 1) (.int 0)))) .nil))) (.cons (.par [6, 7] (.cons (.call (Str.ofString "_law_draw") [] (.cons (.p (.var 0)) (.cons (.p (.var 5)) .nil))) (.cons (.call (Str.ofString "_law_draw") [] (.cons (.p (.var 0)) (.cons (.p (.var 5)) .nil))) .nil))) (match fn__law_bent.body with | .cons _ (.cons _ (.cons _ ss)) => ss | _ => .nil))) := rfl
  have key : ∃ S' d L', StOk S' (c + 10) ∧ small 4 d = true ∧ HdOk d ∧ runSs (Z (m + 4)) (match fn__law_bent.body with | .cons _ (.cons _ (.cons _ ss)) => ss | _ => .nil) [some S3, some (stF W A), some (mD W), some aD, some (nD way), some (nD n), some (nD one), some (nD other)] = .rt d (some S' :: L') := by
    have e5 : (match fn__law_bent.body with | .cons _ (.cons _ (.cons _ (.cons s _))) => Ss.cons s .nil | _ => .nil) = Ss.cons (match fn__law_bent.body with | .cons _ (.cons _ (.cons _ (.cons s _))) => s | _ => .pass) .nil := rfl
    rw [e5, one_ss] at out
    show ∃ S' d L', _ ∧ _ ∧ _ ∧ runSs (Z (m + 4)) (.cons (match fn__law_bent.body with | .cons _ (.cons _ (.cons _ (.cons s _))) => s | _ => .pass) (.cons (.ret (.tup (.cons (.mv 2) (.cons (.mv 3) .nil)))) .nil)) _ = _
    rcases out with ⟨S', w, a, er, s', hw1, ha1⟩ | ⟨S', d, L', er, s', hd1, hd2⟩
    · refine ⟨S', .tup [w, a], _, s'.up (by omega), ?_, fun w b hz => by cases hz; rfl, (nx_cons er).trans (q_ret (x_tup (q_cons (x_mv rfl) (q_cons (x_mv rfl) q_end))))⟩
      exact (small_seq (b := true) (by simp) fun x hx => by
        simp only [List.mem_cons, List.not_mem_nil, or_false] at hx
        rcases hx with rfl | rfl
        · exact hw1
        · exact ha1).2
    · exact ⟨S', d, L', s'.up (by omega), hd1, hd2, rt_cons er⟩
  obtain ⟨S', d, L', s', hd1, hd2, er⟩ := key
  refine ⟨S', d, s', hd1, hd2, ?_⟩
  refine call_io l_bent rfl rfl (L' := L') ?_
  rw [hbody]
  refine q_asgT e1 rfl (q_par (L1 := [some S1, some (stF W A), some (mD W), some aD, none, none, none, none]) (q_cons c1 (q_cons (keepD e2 rfl) q_end)) rfl (q_par (L1 := [some S3, some (stF W A), some (mD W), some aD, some (nD way), some (nD n), none, none]) (q_cons c2 (q_cons c3 q_end)) rfl ?_))
  exact er
end
end K01

namespace K01
open PySem L2 Q
theorem l_law : T.lookup (Str.ofString "law") = some fn_law := by rfl
theorem l_is_store : T.lookup (Str.ofString "is_store") = some fn_is_store := by rfl
theorem l_store_fault : T.lookup (Str.ofString "store_fault") = some fn_store_fault := by rfl
theorem l_stream : T.lookup (Str.ofString "_law_stream") = some fn__law_stream := by rfl
theorem l_same : T.lookup (Str.ofString "_law_same") = some fn__law_same := by rfl
theorem l_lsf : T.lookup (Str.ofString "_law_store_fault") = some fn__law_store_fault := by rfl
section
variable {m : Nat}
theorem s_same {kk : Nat} (h : kk ≤ m) {d e : D} (fd : d.fz = d) (fe : e.fz = e) (hs : sm kk d e = true) : (Z m).call (Str.ofString "_law_same") [d, e] = .ok (.bl true, []) := same_ok kk h l_same rfl rfl rfl rfl rfl fd fe (no_of_fz fd) (no_of_fz fe) hs
theorem s_stream (ns : List Int) : (Z (m + 1)).call (Str.ofString "_law_stream") [.frz (ns.map D.int)] = .ok (strD ns 0 0 17, []) := by
  refine call_rt (L' := [none]) l_stream rfl rfl ?_
  show runSs (Z m) fn__law_stream.body [some (.frz (ns.map D.int))] = _
  have e1 : den (Z m) (.sq .list (.mv 0)) [some (.frz (ns.map D.int))] = .ok (.lst true (ns.map D.int), [none]) := x_sqListE rfl (x_mv rfl) rfl
  exact q_ret (x_lst (q_cons e1 (q_cons (keepD rfl rfl) (q_cons (keepD rfl rfl) (q_cons (keepD rfl rfl) q_end)))))
theorem st0 (ns : List Int) (h : ns.length ≤ 63) : StOk (strD ns 0 0 17) 0 := ⟨⟨ns, 0, 0, 17, rfl, h, by decide, by decide, by decide⟩⟩
end
theorem lc3 : lcost 3 ≤ 9000000 := by decide
theorem lc4 : lcost 4 ≤ 9000000 := by decide
/-! what a fault is like -/
def FaultLike (x : D) : Prop := x = .non ∨ ∃ (s : Str) (ns : List Nat), x = .tup (.str s :: ns.map nD) ∧ SeqAt.shaped (.str s) = true ∧ ns.length ≤ 3
theorem faultLike_sm {x : D} {k : Nat} (h : FaultLike x) : sm (k + 2) x x = true ∧ x.fz = x := by
  rcases h with rfl | ⟨s, ns, rfl, hs, _⟩
  · exact ⟨rfl, rfl⟩
  · constructor
    · simp only [sm, decide_true, Bool.true_and, List.zip_cons_cons, List.all_cons, Bool.and_eq_true]
      refine ⟨hs, List.all_eq_true.mpr fun p hp => ?_⟩
      obtain ⟨i, hi, rfl⟩ := List.getElem_of_mem hp
      simp [sm]
    · rw [D.fz, D.fzs, fzsN]; rfl
theorem sfD_like (d : D) : FaultLike (sfD d) := by
  have f1 : ∀ {W : List (List Nat)} {x : D}, fa1 W = some x → FaultLike x := fun {W x} hx => by
    obtain ⟨i, _, h⟩ := List.exists_of_findSome?_eq_some hx
    obtain ⟨j, _, h⟩ := List.exists_of_findSome?_eq_some h
    split at h <;> simp only [Option.some.injEq, reduceCtorEq] at h
    subst h; exact Or.inr ⟨_, [i, j], rfl, by decide +kernel, by simp⟩
  have f2 : ∀ {W : List (List Nat)} {x : D}, fa2 W = some x → FaultLike x := fun {W x} hx => by
    obtain ⟨i, _, h⟩ := List.exists_of_findSome?_eq_some hx
    obtain ⟨b, _, h⟩ := List.exists_of_findSome?_eq_some h
    obtain ⟨j, _, h⟩ := List.exists_of_findSome?_eq_some h
    split at h <;> simp only [Option.some.injEq, reduceCtorEq] at h
    subst h; exact Or.inr ⟨_, [i, b, j], rfl, by decide +kernel, by simp⟩
  have f3 : ∀ {A : List (List (Option Nat))} {x : D}, fa3 A = some x → FaultLike x := fun {A x} hx => by
    obtain ⟨i, _, h⟩ := List.exists_of_findSome?_eq_some hx
    split at h <;> simp only [Option.some.injEq, reduceCtorEq] at h
    subst h; exact Or.inr ⟨_, [i], rfl, by decide +kernel, by simp⟩
  unfold sfD
  cases hf : formO d with
  | none => exact Or.inr ⟨_, [], rfl, by decide +kernel, by simp⟩
  | some p =>
    obtain ⟨W, A⟩ := p
    show FaultLike (faultD W A)
    unfold faultD faultO
    cases e1 : fa1 W with
    | some x => exact f1 e1
    | none =>
      cases e2 : fa2 W with
      | some x => exact f2 e2
      | none =>
        cases e3 : fa3 A with
        | some x => exact f3 e3
        | none => exact Or.inl rfl
theorem isSt_isN (d : D) : ap1 .isN (sfD d) = some (.bl (isStB d)) := by
  have hl := sfD_like d
  unfold sfD isStB at *
  cases hf : formO d with
  | none => rfl
  | some p =>
    obtain ⟨W, A⟩ := p
    show ap1 .isN (faultD W A) = some (.bl (faultO W A).isNone)
    unfold faultD
    cases hx : faultO W A with
    | none => rfl
    | some x =>
      have := fault_nn hx
      show ap1 .isN x = some (.bl false)
      have h2 : ap1 .ntN x = some (.bl true) := this
      cases x <;> first | rfl | cases h2
theorem sf_of {d e : D} (h : d.nm = e.nm) : sfD d = sfD e ∧ isStB d = isStB e := by
  unfold sfD isStB
  rw [formO_of h]; exact ⟨rfl, rfl⟩
section
variable {m c n q : Nat} {S : D} {W : List (List Nat)} {A : List (List (Option Nat))}
theorem sf_store (h : Store n q W A) : sfD (stF W A) = .non ∧ isStB (stF W A) = true := by
  unfold sfD isStB
  rw [form_st h]
  have := store_fine h
  exact ⟨by show faultD W A = _; unfold faultD; rw [this]; rfl, by show (faultO W A).isNone = true; rw [this]; rfl⟩
/-- one bending -/
abbrev mk (fr S o2 x3 o4 o5 o6 o7 o8 o9 : Option D) : Lcs := [fr, S, o2, x3, o4, o5, o6, o7, o8, o9]
def B4 : Ss := match fn_law.body with | .cons _ (.cons (.for_ _ _ (.cons _ (.cons _ (.cons _ (.cons _ (.cons _ (.cons (.for_ _ _ b) _))))))) _) => b | _ => .nil
theorem bend_turn (h : Store n q W A) (hn : n ≤ 6) (hA : A.length ≤ 4) (s : StOk S c) (hc : c < 600000000000) {fr o2 o4 o5 o6 o7 o8 o9 : Option D} {x3 : D} (h3 : x3.fz = stF W A) :
    ∃ S' x3' o6' o8' o9', StOk S' (c + 10000000) ∧ x3'.fz = stF W A ∧ runSs (Z (m + 8)) B4 (mk fr (some S) o2 (some x3) o4 o5 o6 o7 o8 o9) = .nx (mk fr (some S') o2 (some x3') o4 o5 o6' o7 o8' o9') := by
  obtain ⟨S1, d, s1, hd, hh, cb⟩ := bent_ok (m := m + 3) h hn hA s (by omega)
  -- bent
  have e1 : ∃ x3', x3'.fz = stF W A ∧ den (Z (m + 8)) (.call (Str.ofString "_law_bent") [] (.cons (.p (.var 1)) (.cons (.p (.var 3)) .nil))) (mk fr (some S) o2 (some x3) o4 o5 o6 o7 o8 o9) = .ok (d, mk fr (some S1) o2 (some x3') o4 o5 o6 o7 o8 o9) := by
    have hv : argVals [.io 1, .bor 3] (mk fr (some S) o2 (some x3) o4 o5 o6 o7 o8 o9) = some ([S, stF W A], mk fr none o2 (some x3) o4 o5 o6 o7 o8 o9) := avI rfl (avB rfl h3 avE)
    cases hz : (d.noSh && S1.noSh) with
    | true => exact ⟨x3, h3, cal_io l_bent rfl (i := 1) rfl (a_bor rfl a_end) rfl hv rfl cb (by rw [if_pos hz]; rfl)⟩
    | false =>
      refine ⟨stF W A, stF_fz W A, cal_io l_bent rfl (i := 1) rfl (a_bor rfl a_end) rfl hv rfl cb ?_⟩
      rw [if_neg (by rw [hz]; exact Bool.false_ne_true)]
      have : fzLent [.io 1, .bor 3] (mk fr none o2 (some x3) o4 o5 o6 o7 o8 o9) = mk fr none o2 (some x3.fz) o4 o5 o6 o7 o8 o9 := rfl
      rw [this, h3]; rfl
  obtain ⟨x3', h3', e1⟩ := e1
  have ad : Ar 4 d.fz := Ar.of hd
  have hh2 : ∀ w b, d.fz.els = some [w, b] → d.fz = .tup [w, b] := fun w b hz => by
    cases d with
    | tup ds => simp only [D.fz, D.els, Option.some.injEq] at hz; rw [D.fz, hz]
    | lst o ds =>
      simp only [D.fz, D.els, Option.some.injEq] at hz
      match ds, hz with
      | [x, y], hz => exact absurd (hh x y rfl) (fun z => by cases z)
      | [], hz => simp [D.fzs] at hz
      | [_], hz => simp [D.fzs] at hz
      | _ :: _ :: _ :: _, hz => simp [D.fzs] at hz
    | frz ds => simp [small] at hd
    | _ => simp [D.fz, D.els] at hz
  have nd : d.fz.nm = d.nm := fz_nm d
  let due := sfD d.fz
  have hlk := sfD_like d.fz
  have hsm := faultLike_sm (k := 0) hlk
  have dsh : due.noSh = true := by
    rcases hlk with e | ⟨s, ns, e, _⟩
    · show (sfD d.fz).noSh = true; rw [e]; rfl
    · show (sfD d.fz).noSh = true; rw [e, D.noSh, D.noShs, noShN]; rfl
  have dno : due.noOwn = true := no_of_fz hsm.2
  have clsf := law_fault_ok (G := constG tb) (N0 := NN) (m := m + 6) i_lsf i_lnum (k := 1) ad hh2
  let L1 : D → D → Lcs := fun S y => mk fr (some S) o2 (some x3') o4 o5 o6 o7 (some y) (some due)
  have e2 : den (Z (m + 8)) (.call (Str.ofString "_law_store_fault") [] (.cons (.p (.var 8)) .nil)) (mk fr (some S1) o2 (some x3') o4 o5 o6 o7 (some d) o9) = .ok (due, mk fr (some S1) o2 (some x3') o4 o5 o6 o7 (some d) o9) := cal l_lsf (a_bor rfl a_end) clsf (hv := avB rfl rfl avE) (hd := dsh)
  -- copies
  have cpy : ∀ {S y : D}, y.fz = d.fz → den (Z (m + 8)) (.call nCop [] (.cons (.p (.var 8)) .nil)) (L1 S y) = .ok (d.fz.ow, L1 S y) := fun {S y} hy => by
    refine calF i_cop (a_bor rfl a_end) (copied_ok (G := constG tb) (N0 := NN) i_cop 4 (m + 8) (by omega) ad) rfl (avB rfl hy avE) rfl ?_
    rw [ow_noSh]; rfl
  have aow : Ar 4 d.fz.ow.fz := Ar.of (small_ow 4 ad.sm)
  have now : d.fz.ow.fz.nm = d.fz.nm := by rw [fz_nm, ow_nm]
  have f1 : den (Z (m + 8)) (.call (Str.ofString "store_fault") [] (.cons (.call nCop [] (.cons (.p (.var 8)) .nil)) .nil)) (L1 S1 d) = .ok (due, L1 S1 d) := by
    have := store_fault_ok (G := constG tb) (N0 := NN) (m := m + 3) i_fns i_sf (k := 1) aow
    rw [(sf_of now).1] at this
    exact cal l_store_fault (a_val (cpy rfl) a_end) this (hv := avV rfl avE) (hd := dsh)
  -- loose
  obtain ⟨S2, d2, s2, n2, sm2, _, cl⟩ := loose_ok (G := constG tb) (N0 := NN) i_loo i_draw hNN 4 (m + 8) (by omega) ad s1 (by have := lc4; omega)
  have el : ∃ y, y.fz = d.fz ∧ den (Z (m + 8)) (.call nLoo [] (.cons (.p (.var 1)) (.cons (.p (.var 8)) .nil))) (L1 S1 d) = .ok (d2, L1 S2 y) := by
    have hv : argVals [.io 1, .bor 8] (L1 S1 d) = some ([S1, d.fz], mk fr none o2 (some x3') o4 o5 o6 o7 (some d) (some due)) := avI rfl (avB rfl rfl avE)
    cases hz : (d2.noSh && S2.noSh) with
    | true => exact ⟨d, rfl, calFio i_loo (i := 1) rfl (a_bor rfl a_end) cl rfl hv rfl (by rw [if_pos hz]; rfl)⟩
    | false => exact ⟨d.fz, fzfz d, calFio i_loo (i := 1) rfl (a_bor rfl a_end) cl rfl hv rfl (by rw [if_neg (by rw [hz]; exact Bool.false_ne_true)]; rfl)⟩
  obtain ⟨y, hy, el⟩ := el
  have f2 : den (Z (m + 8)) (.call (Str.ofString "store_fault") [Str.ofString "thing"] (.cons (.call nLoo [] (.cons (.p (.var 1)) (.cons (.p (.var 8)) .nil))) .nil)) (L1 S1 d) = .ok (due, L1 S2 y) := by
    have := store_fault_ok (G := constG tb) (N0 := NN) (m := m + 3) i_fns i_sf (k := 1) (Ar.of sm2)
    rw [(sf_of (show d2.fz.nm = d.fz.nm by rw [fz_nm, n2])).1] at this
    exact calK [0] l_store_fault (a_val el a_end) this (ds := [d2.fz]) (hv := avV rfl avE) (hd := dsh)
  have f3 : den (Z (m + 8)) (.call (Str.ofString "is_store") [] (.cons (.call nCop [] (.cons (.p (.var 8)) .nil)) .nil)) (L1 S2 y) = .ok (.bl (isStB d.fz), L1 S2 y) := by
    have := is_store_ok (G := constG tb) (N0 := NN) (m := m + 2) i_fns i_isst (k := 1) aow
    rw [(sf_of now).2] at this
    exact cal l_is_store (a_val (cpy hy) a_end) this (hv := avV rfl avE)
  let found : D := .lst true [due, due, .bl (isStB d.fz)]
  let L2 : Lcs := mk fr (some S2) o2 (some x3') o4 o5 (some found) o7 (some y) (some due)
  have p9 : pur (Z (m + 8)).G (.o1 .isN (.var 9)) L2 = some (.bl (isStB d.fz)) := (pur1 (d := due) rfl).trans (isSt_isN d.fz)
  have el2 : den (Z (m + 8)) (.lst (.cons (.p (.var 9)) (.cons (.p (.var 9)) (.cons (.p (.o1 .isN (.var 9))) .nil)))) L2 = .ok (found, L2) := x_lst (q_cons (keepD rfl dno) (q_cons (keepD rfl dno) (q_cons (keepD p9 rfl) q_end)))
  have ffz : found.fz = .lst false [due, due, .bl (isStB d.fz)] := by
    have : due.fz = due := hsm.2
    show D.lst false (D.fzs [due, due, .bl (isStB d.fz)]) = _
    rw [D.fzs, D.fzs, D.fzs, D.fzs, this]; rfl
  have hsame : (Z (m + 8)).call (Str.ofString "_law_same") [.lst false [due, due, .bl (isStB d.fz)], .lst false [due, due, .bl (isStB d.fz)]] = .ok (.bl true, []) := by
    refine s_same (kk := 3) (by omega) (by rw [← ffz, fzfz]) (by rw [← ffz, fzfz]) ?_
    have : sm 2 due due = true := hsm.1
    refine (sm_seq fun x hx => ?_).1
    simp only [List.mem_cons, List.not_mem_nil, or_false] at hx
    rcases hx with rfl | rfl | rfl
    · exact this
    · exact this
    · exact beq_self_eq_true (isStB d.fz)
  have e3 : den (Z (m + 8)) (.call (Str.ofString "_law_same") [] (.cons (.p (.var 6)) (.cons (.lst (.cons (.p (.var 9)) (.cons (.p (.var 9)) (.cons (.p (.o1 .isN (.var 9))) .nil)))) .nil))) L2 = .ok (.bl true, L2) := cal l_same (a_bor rfl (a_val el2 a_end)) hsame (hv := avB rfl ffz (avV ffz avE))
  refine ⟨S2, x3', some found, some y, some due, s2.up ?_, h3', ?_⟩
  · have := lc4; omega
  · exact q_asg e1 (q_asg e2 (q_asg (x_lst (q_cons f1 (q_cons f2 (q_cons f3 q_end)))) (q_if0 (x_notR (rdE (h := e3))) q_nil)))
def B1 : Ss := match fn_law.body with | .cons _ (.cons (.for_ _ _ b) _) => b | _ => .nil
/-- one turn -/
theorem law_turn (s : StOk S c) (hc : c < 500000000000) {fr o2 o3 o4 o5 o6 o7 o8 o9 : Option D} :
    ∃ S' o3' o4' o5' o6' o7' o8' o9', StOk S' (c + 100000000) ∧ runSs (Z (m + 8)) B1 (mk fr (some S) o2 o3 o4 o5 o6 o7 o8 o9) = .nx (mk fr (some S') o2 o3' o4' o5' o6' o7' o8' o9') := by
  let L0 : D → Lcs := fun S => mk fr (some S) o2 o3 o4 o5 o6 o7 o8 o9
  obtain ⟨S1, a1, s1, h1, c1⟩ := x_drw (G := constG tb) (N0 := NN) (m := m + 7) i_draw hNN s (by omega) (M := 6) (by omega) (L := L0 S) (i := 1) (e := .p (.int 6)) rfl (keepD rfl rfl)
  obtain ⟨S2, a2, s2, h2, c2⟩ := x_drw (G := constG tb) (N0 := NN) (m := m + 7) i_draw hNN s1 (by omega) (M := 4) (by omega) (L := L0 S1) (i := 1) (e := .p (.int 4)) rfl (keepD rfl rfl)
  obtain ⟨S3, a3, s3, h3, c3⟩ := x_drw (G := constG tb) (N0 := NN) (m := m + 7) i_draw hNN s2 (by omega) (M := 9) (by omega) (L := L0 S2) (i := 1) (e := .p (.int 9)) rfl (keepD rfl rfl)
  obtain ⟨S4, W, A, s4, hst, hAl, c4⟩ := store_ok (G := constG tb) (N0 := NN) (m := m + 5) i_lst i_lcl i_pick i_draw hNN s3 (n := a1 + 1) (asks := a2 + 1) (most := a3 + 1) (q := 9) (by omega) (by omega) (by omega) (by omega)
  have hn6 : a1 + 1 ≤ 6 := by omega
  have hA4 : A.length ≤ 4 := by omega
  have e1 : den (Z (m + 8)) (.call (Str.ofString "_law_store") [] (.cons (.p (.var 1)) (.cons (.o2 .add (.p (.int 1)) (.call (Str.ofString "_law_draw") [] (.cons (.p (.var 1)) (.cons (.p (.int 6)) .nil)))) (.cons (.o2 .add (.p (.int 1)) (.call (Str.ofString "_law_draw") [] (.cons (.p (.var 1)) (.cons (.p (.int 4)) .nil)))) (.cons (.o2 .add (.p (.int 1)) (.call (Str.ofString "_law_draw") [] (.cons (.p (.var 1)) (.cons (.p (.int 9)) .nil)))) .nil))))) (L0 S) = .ok (stD W A, L0 S4) := by
    refine calFio i_lst (i := 1) (S := S) rfl (a_val (one_more c1 rfl) (a_val (one_more c2 rfl) (a_val (one_more c3 rfl) a_end))) c4 rfl (Ly := (L0 S3).set 1 none) (avI rfl (avV rfl (avV rfl (avV rfl avE)))) rfl ?_
    split <;> rfl
  have aF : Ar 3 (stF W A) := ⟨small_st hst (by omega) (by omega), stF_fz W A⟩
  obtain ⟨S5, d1, s5, n5, sm5, _, cl⟩ := loose_ok (G := constG tb) (N0 := NN) i_loo i_draw hNN 3 (m + 8) (by omega) aF s4 (by have := lc3; omega)
  let L1 : D → D → Lcs := fun S x => mk fr (some S) o2 (some x) o4 o5 o6 o7 o8 o9
  have e2 : ∃ x3, x3.fz = stF W A ∧ den (Z (m + 8)) (.call nLoo [] (.cons (.p (.var 1)) (.cons (.p (.var 3)) .nil))) (L1 S4 (stD W A)) = .ok (d1, L1 S5 x3) := by
    have hv : argVals [.io 1, .bor 3] (L1 S4 (stD W A)) = some ([S4, stF W A], mk fr none o2 (some (stD W A)) o4 o5 o6 o7 o8 o9) := avI rfl (avB rfl (stD_fz W A) avE)
    cases hz : (d1.noSh && S5.noSh) with
    | true => exact ⟨stD W A, stD_fz W A, calFio i_loo (i := 1) rfl (a_bor rfl a_end) cl rfl hv rfl (by rw [if_pos hz]; rfl)⟩
    | false =>
      refine ⟨(stD W A).fz, by rw [fzfz, stD_fz], calFio i_loo (i := 1) rfl (a_bor rfl a_end) cl rfl hv rfl ?_⟩
      rw [if_neg (by rw [hz]; exact Bool.false_ne_true)]; rfl
  obtain ⟨x3, hx3, e2⟩ := e2
  have a1' : Ar 3 d1.fz := Ar.of sm5
  have nn1 : d1.fz.nm = (stF W A).nm := by rw [fz_nm, n5]
  let w1 : D := d1.fz.ow
  have wsh : w1.noSh = true := ow_noSh _
  let L2 : Lcs := mk fr (some S5) o2 (some x3) (some d1) o5 o6 o7 o8 o9
  have e3 : den (Z (m + 8)) (.call nCop [] (.cons (.p (.var 4)) .nil)) L2 = .ok (w1, L2) := by
    refine calF i_cop (a_bor rfl a_end) (copied_ok (G := constG tb) (N0 := NN) i_cop 3 (m + 8) (by omega) a1') rfl (avB rfl rfl avE) rfl ?_
    rw [ow_noSh]; rfl
  let L3 : Lcs := mk fr (some S5) o2 (some x3) (some d1) (some w1) o6 o7 o8 o9
  have cpy : den (Z (m + 8)) (.call nCop [] (.cons (.p (.var 3)) .nil)) L3 = .ok (stD W A, L3) := by
    have := copied_ok (G := constG tb) (N0 := NN) i_cop 3 (m + 8) (by omega) aF
    rw [stF_ow] at this
    refine calF i_cop (a_bor rfl a_end) this rfl (avB rfl hx3 avE) rfl ?_
    rw [stD_sh]; rfl
  obtain ⟨q1, q2⟩ := sf_store hst
  obtain ⟨r1, r2⟩ := sf_of nn1
  have g1 : den (Z (m + 8)) (.call (Str.ofString "is_store") [] (.cons (.p (.var 4)) .nil)) L3 = .ok (.bl true, L3) := by
    have := is_store_ok (G := constG tb) (N0 := NN) (m := m + 2) i_fns i_isst (k := 0) a1'
    rw [r2, q2] at this
    exact cal l_is_store (a_bor rfl a_end) this (hv := avB rfl rfl avE)
  have g2 : den (Z (m + 8)) (.call (Str.ofString "is_store") [Str.ofString "thing"] (.cons (.call nCop [] (.cons (.p (.var 3)) .nil)) .nil)) L3 = .ok (.bl true, L3) := by
    have := is_store_ok (G := constG tb) (N0 := NN) (m := m + 2) i_fns i_isst (k := 0) aF
    rw [q2] at this
    exact calK [0] l_is_store (a_val cpy a_end) this (ds := [stF W A]) (hv := avV (stD_fz W A) avE)
  have g3 : den (Z (m + 8)) (.call (Str.ofString "store_fault") [] (.cons (.p (.var 4)) .nil)) L3 = .ok (.non, L3) := by
    have := store_fault_ok (G := constG tb) (N0 := NN) (m := m + 3) i_fns i_sf (k := 0) a1'
    rw [r1, q1] at this
    exact cal l_store_fault (a_bor rfl a_end) this (hv := avB rfl rfl avE)
  have g4 : den (Z (m + 8)) (.call (Str.ofString "store_fault") [Str.ofString "thing"] (.cons (.call nCop [] (.cons (.p (.var 3)) .nil)) .nil)) L3 = .ok (.non, L3) := by
    have := store_fault_ok (G := constG tb) (N0 := NN) (m := m + 3) i_fns i_sf (k := 0) aF
    rw [q1] at this
    exact calK [0] l_store_fault (a_val cpy a_end) this (ds := [stF W A]) (hv := avV (stD_fz W A) avE)
  let found : D := .lst true [.bl true, .bl true, .non, .non]
  let L4 : Lcs := mk fr (some S5) o2 (some x3) (some d1) (some w1) (some found) o7 o8 o9
  have t1 : den (Z (m + 8)) (.call (Str.ofString "_law_same") [] (.cons (.p (.var 6)) (.cons (.lst (.cons (.p (.bl true)) (.cons (.p (.bl true)) (.cons (.p .non) (.cons (.p .non) .nil))))) .nil))) L4 = .ok (.bl true, L4) :=
    cal l_same (a_bor rfl (a_val (x_lst (q_cons (keepD rfl rfl) (q_cons (keepD rfl rfl) (q_cons (keepD rfl rfl) (q_cons (keepD rfl rfl) q_end))))) a_end)) (s_same (kk := 2) (by omega) (d := .lst false [.bl true, .bl true, .non, .non]) rfl rfl rfl) (hv := avB rfl rfl (avV rfl avE))
  have wfz : w1.fz = d1.fz := by show d1.fz.ow.fz = _; rw [ow_fz 3 a1'.sm, fzfz]
  have t2 : den (Z (m + 8)) (.call (Str.ofString "_law_same") [] (.cons (.p (.var 4)) (.cons (.p (.var 5)) .nil))) L4 = .ok (.bl true, L4) := by
    refine cal l_same (a_bor rfl (a_bor rfl a_end)) (s_same (kk := 4) (by omega) (d := d1.fz) (e := d1.fz) (fzfz d1) (fzfz d1) ?_) (hv := avB rfl rfl (avB rfl wfz avE))
    exact qk_sm 4 (qk_nm 4 nn1 (small_up aF.sm) qk_st (small_up a1'.sm))
  -- the bendings
  obtain ⟨L', e5, S6, x3', o6', o7', o8', o9', rfl, s6, hx3'⟩ := forRun_ix (tg := .nm 7) (n := 4) (body := fun L => runSs (Z (m + 8)) B4 L) nD
    (fun i L => ∃ S x3 o6 o7 o8 o9, L = mk fr (some S) o2 (some x3) (some d1) (some w1) o6 o7 o8 o9 ∧ StOk S (c + 20000000 + i * 10000000) ∧ x3.fz = stF W A) (by
      rintro i hi _ ⟨S, x3, o6, o7, o8, o9, rfl, s, hx⟩
      obtain ⟨S', x3', o6', o8', o9', s', hx', e⟩ := bend_turn (m := m) hst hn6 hA4 s (by omega) (fr := fr) (o2 := o2) (o4 := some d1) (o5 := some w1) (o6 := o6) (o7 := some (nD i)) (o8 := o8) (o9 := o9) hx
      exact ⟨_, _, rfl, e, S', x3', _, _, _, _, rfl, s'.up (by omega), hx'⟩) (L := L4) ⟨S5, x3, some found, o7, o8, o9, rfl, s5.up (by have := lc3; omega), hx3⟩
  refine ⟨S6, some x3', some d1, some w1, o6', o7', o8', o9', s6.up (by omega), ?_⟩
  exact q_asg e1 (q_asg e2 (q_asg e3 (q_asg (x_lst (q_cons g1 (q_cons g2 (q_cons g3 (q_cons g4 q_end))))) (q_if0 (x_orR (x_notR (rdE (h := t1))) (x_notR (rdE (h := t2)))) (q_for (src_rng1 (n := 4) rfl (by decide)) e5 q_nil)))))
/-- the law's plain fact -/
theorem law_plain (ns : List Int) (h : ns.length ≤ 63) : (Z (m + 9)).call (Str.ofString "law") [.frz (ns.map D.int)] = .ok (.bl true, []) := by
  let fr : Option D := some (.frz (ns.map D.int))
  obtain ⟨L', e1, S, o2, o3, o4, o5, o6, o7, o8, o9, rfl, _⟩ := forRun_ix (tg := .nm 2) (n := 6) (body := fun L => runSs (Z (m + 8)) B1 L) nD
    (fun i L => ∃ S o2 o3 o4 o5 o6 o7 o8 o9, L = mk fr (some S) o2 o3 o4 o5 o6 o7 o8 o9 ∧ StOk S (i * 100000000)) (by
      rintro i hi _ ⟨S, o2, o3, o4, o5, o6, o7, o8, o9, rfl, s⟩
      obtain ⟨S', o3', o4', o5', o6', o7', o8', o9', s', e⟩ := law_turn (m := m) s (by omega) (fr := fr) (o2 := some (nD i)) (o3 := o3) (o4 := o4) (o5 := o5) (o6 := o6) (o7 := o7) (o8 := o8) (o9 := o9)
      exact ⟨_, _, rfl, e, S', _, _, _, _, _, _, _, _, rfl, s'.up (by omega)⟩) (L := mk fr (some (strD ns 0 0 17)) none none none none none none none none) ⟨_, _, _, _, _, _, _, _, _, rfl, (st0 ns h).up (by omega)⟩
  refine call_rt l_law rfl rfl (L' := mk fr (some S) o2 o3 o4 o5 o6 o7 o8 o9) ?_
  refine q_asg (cal l_stream (a_bor rfl a_end) (s_stream ns) (hv := avB rfl rfl avE) (hd := (st0 ns h).sh)) (q_for (src_rng1 (n := 6) rfl (by decide)) e1 ?_)
  let w3 : D := .lst true [.lst true [nD 0, nD 3, nD 1], .lst true [nD 3, nD 0, nD 1], .lst true [nD 1, nD 1, nD 0]]
  let t3 : D := .tup [w3, .lst true [.lst true [nD 0, nD 0, nD 0]]]
  let t1 : D := .tup [.lst true [.lst true [nD 0]], .lst true [.lst true [nD 0]]]
  let due : D := .tup [.str (Str.ofString "way"), nD 0, nD 2, nD 1]
  have c1 : (Z (m + 8)).call (Str.ofString "store_fault") [t3.fz] = .ok (due, []) := by
    have := store_fault_ok (G := constG tb) (N0 := NN) (m := m + 3) i_fns i_sf (k := 0) (Ar.of (show small 3 t3 = true by decide +kernel))
    rw [show sfD t3.fz = due by rfl] at this
    exact this
  have c2 : (Z (m + 8)).call (Str.ofString "is_store") [t1.fz] = .ok (.bl true, []) := by
    have := is_store_ok (G := constG tb) (N0 := NN) (m := m + 2) i_fns i_isst (k := 0) (Ar.of (show small 3 t1 = true by decide +kernel))
    rw [show isStB t1.fz = true by rfl] at this
    exact this
  have n3 : ∀ {a b c : Nat} {L : Lcs}, den (Z (m + 8)) (.lst (.cons (.p (.int (a : Int))) (.cons (.p (.int (b : Int))) (.cons (.p (.int (c : Int))) .nil)))) L = .ok (.lst true [nD a, nD b, nD c], L) := x_lst (q_cons (keepD rfl rfl) (q_cons (keepD rfl rfl) (q_cons (keepD rfl rfl) q_end)))
  have d1 := cal (N := NN) (G := constG tb) (m := m + 8) (L := mk fr (some S) o2 o3 o4 o5 o6 o7 o8 o9) l_store_fault (a_val (x_tup (q_cons (x_lst (q_cons (n3 (a := 0) (b := 3) (c := 1)) (q_cons (n3 (a := 3) (b := 0) (c := 1)) (q_cons (n3 (a := 1) (b := 1) (c := 0)) q_end)))) (q_cons (x_lst (q_cons (n3 (a := 0) (b := 0) (c := 0)) q_end)) q_end))) a_end) c1 (hv := avV rfl avE)
  have d2 := cal (N := NN) (G := constG tb) (m := m + 8) (L := mk fr (some S) o2 o3 o4 o5 o6 o7 o8 o9) l_is_store (a_val (x_tup (q_cons (x_lst (q_cons (x_lst (q_cons (keepD (p := .int 0) (d := nD 0) rfl rfl) q_end)) q_end)) (q_cons (x_lst (q_cons (x_lst (q_cons (keepD (p := .int 0) (d := nD 0) rfl rfl) q_end)) q_end)) q_end))) a_end) c2 (hv := avV rfl avE)
  refine q_ret (x_and (rdE (h := cal l_same (a_val d1 (a_val (x_tup (q_cons (keepD (p := .str (Str.ofString "way")) rfl rfl) (q_cons (keepD (p := .int 0) rfl rfl) (q_cons (keepD (p := .int 2) rfl rfl) (q_cons (keepD (p := .int 1) rfl rfl) q_end))))) a_end)) (s_same (kk := 3) (by omega) (d := due) (e := due) rfl rfl (by decide +kernel)) (hv := avV rfl (avV rfl avE)))) (rdE (h := ?_)))
  rw [den_o1, rdE (h := d2)]
  rfl
end
end K01

namespace K01
open PySem L2 Q
abbrev P : Program := PySem.Challenge.pw_paidlater_k01_stores_known
theorem k_law : ksOf kl (Str.ofString "law") = [] := by decide +kernel
theorem b_law : BindOk (topOf P 24) (Str.ofString "law") [Str.ofString "script"] (ksOf kl (Str.ofString "law")) := by
  refine ⟨fun _ _ _ _ _ _ us hl => match us, hl with | [_], _ => rfl, ?_⟩
  rw [k_law]
  exact fun _ h => (nomatch h)
theorem k__law_bent : ksOf kl (Str.ofString "_law_bent") = [] := by decide +kernel
theorem b__law_bent : BindOk (topOf P 23) (Str.ofString "_law_bent") [Str.ofString "stream", Str.ofString "store"] (ksOf kl (Str.ofString "_law_bent")) := by
  refine ⟨fun _ _ _ _ _ _ us hl => match us, hl with | [_, _], _ => rfl, ?_⟩
  rw [k__law_bent]
  exact fun _ h => (nomatch h)
theorem k__law_copied : ksOf kl (Str.ofString "_law_copied") = [] := by decide +kernel
theorem b__law_copied : BindOk (topOf P 17) (Str.ofString "_law_copied") [Str.ofString "thing"] (ksOf kl (Str.ofString "_law_copied")) := by
  refine ⟨fun _ _ _ _ _ _ us hl => match us, hl with | [_], _ => rfl, ?_⟩
  rw [k__law_copied]
  exact fun _ h => (nomatch h)
theorem k__law_draw : ksOf kl (Str.ofString "_law_draw") = [] := by decide +kernel
theorem b__law_draw : BindOk (topOf P 14) (Str.ofString "_law_draw") [Str.ofString "stream", Str.ofString "many"] (ksOf kl (Str.ofString "_law_draw")) := by
  refine ⟨fun _ _ _ _ _ _ us hl => match us, hl with | [_, _], _ => rfl, ?_⟩
  rw [k__law_draw]
  exact fun _ h => (nomatch h)
theorem k__law_loose : ksOf kl (Str.ofString "_law_loose") = [] := by decide +kernel
theorem b__law_loose : BindOk (topOf P 18) (Str.ofString "_law_loose") [Str.ofString "stream", Str.ofString "thing"] (ksOf kl (Str.ofString "_law_loose")) := by
  refine ⟨fun _ _ _ _ _ _ us hl => match us, hl with | [_, _], _ => rfl, ?_⟩
  rw [k__law_loose]
  exact fun _ h => (nomatch h)
theorem k__law_same : ksOf kl (Str.ofString "_law_same") = [] := by decide +kernel
theorem b__law_same : BindOk (topOf P 16) (Str.ofString "_law_same") [Str.ofString "found", Str.ofString "due"] (ksOf kl (Str.ofString "_law_same")) := by
  refine ⟨fun _ _ _ _ _ _ us hl => match us, hl with | [_, _], _ => rfl, ?_⟩
  rw [k__law_same]
  exact fun _ h => (nomatch h)
theorem k__law_store : ksOf kl (Str.ofString "_law_store") = [] := by decide +kernel
theorem b__law_store : BindOk (topOf P 20) (Str.ofString "_law_store") [Str.ofString "stream", Str.ofString "stands", Str.ofString "asks", Str.ofString "most"] (ksOf kl (Str.ofString "_law_store")) := by
  refine ⟨fun _ _ _ _ _ _ us hl => match us, hl with | [_, _, _, _], _ => rfl, ?_⟩
  rw [k__law_store]
  exact fun _ h => (nomatch h)
theorem k__law_store_fault : ksOf kl (Str.ofString "_law_store_fault") = [] := by decide +kernel
theorem b__law_store_fault : BindOk (topOf P 21) (Str.ofString "_law_store_fault") [Str.ofString "thing"] (ksOf kl (Str.ofString "_law_store_fault")) := by
  refine ⟨fun _ _ _ _ _ _ us hl => match us, hl with | [_], _ => rfl, ?_⟩
  rw [k__law_store_fault]
  exact fun _ h => (nomatch h)
theorem k__law_stream : ksOf kl (Str.ofString "_law_stream") = [] := by decide +kernel
theorem b__law_stream : BindOk (topOf P 13) (Str.ofString "_law_stream") [Str.ofString "script"] (ksOf kl (Str.ofString "_law_stream")) := by
  refine ⟨fun _ _ _ _ _ _ us hl => match us, hl with | [_], _ => rfl, ?_⟩
  rw [k__law_stream]
  exact fun _ h => (nomatch h)
theorem k_is_store : ksOf kl (Str.ofString "is_store") = [[Str.ofString "thing"]] := by decide +kernel
theorem b_is_store : BindOk (topOf P 10) (Str.ofString "is_store") [Str.ofString "thing"] (ksOf kl (Str.ofString "is_store")) := by
  refine ⟨fun _ _ _ _ _ _ us hl => match us, hl with | [_], _ => rfl, ?_⟩
  rw [k_is_store]
  intro ks hk
  obtain rfl := List.mem_singleton.mp hk
  · exact fun _ _ _ _ _ _ ws hl => match ws, hl with | [_], _ => rfl
theorem k_store_fault : ksOf kl (Str.ofString "store_fault") = [[Str.ofString "thing"]] := by decide +kernel
theorem b_store_fault : BindOk (topOf P 11) (Str.ofString "store_fault") [Str.ofString "thing"] (ksOf kl (Str.ofString "store_fault")) := by
  refine ⟨fun _ _ _ _ _ _ us hl => match us, hl with | [_], _ => rfl, ?_⟩
  rw [k_store_fault]
  intro ks hk
  obtain rfl := List.mem_singleton.mp hk
  · exact fun _ _ _ _ _ _ ws hl => match ws, hl with | [_], _ => rfl
theorem k__law_pick : ksOf kl (Str.ofString "_law_pick") = [] := by decide +kernel
theorem b__law_pick : BindOk (topOf P 15) (Str.ofString "_law_pick") [Str.ofString "stream", Str.ofString "things"] (ksOf kl (Str.ofString "_law_pick")) := by
  refine ⟨fun _ _ _ _ _ _ us hl => match us, hl with | [_, _], _ => rfl, ?_⟩
  rw [k__law_pick]
  exact fun _ h => (nomatch h)
theorem k__law_closed : ksOf kl (Str.ofString "_law_closed") = [] := by decide +kernel
theorem b__law_closed : BindOk (topOf P 19) (Str.ofString "_law_closed") [Str.ofString "ways"] (ksOf kl (Str.ofString "_law_closed")) := by
  refine ⟨fun _ _ _ _ _ _ us hl => match us, hl with | [_], _ => rfl, ?_⟩
  rw [k__law_closed]
  exact fun _ h => (nomatch h)
theorem k__law_is_number : ksOf kl (Str.ofString "_law_is_number") = [] := by decide +kernel
theorem b__law_is_number : BindOk (topOf P 22) (Str.ofString "_law_is_number") [Str.ofString "thing"] (ksOf kl (Str.ofString "_law_is_number")) := by
  refine ⟨fun _ _ _ _ _ _ us hl => match us, hl with | [_], _ => rfl, ?_⟩
  rw [k__law_is_number]
  exact fun _ h => (nomatch h)
theorem k_kept_store : ksOf kl (Str.ofString "kept_store") = [] := by decide +kernel
theorem b_kept_store : BindOk (topOf P 9) (Str.ofString "kept_store") [Str.ofString "thing"] (ksOf kl (Str.ofString "kept_store")) := by
  refine ⟨fun _ _ _ _ _ _ us hl => match us, hl with | [_], _ => rfl, ?_⟩
  rw [k_kept_store]
  exact fun _ h => (nomatch h)
theorem k_fault_of : ksOf kl (Str.ofString "fault_of") = [] := by decide +kernel
theorem b_fault_of : BindOk (topOf P 8) (Str.ofString "fault_of") [Str.ofString "form"] (ksOf kl (Str.ofString "fault_of")) := by
  refine ⟨fun _ _ _ _ _ _ us hl => match us, hl with | [_], _ => rfl, ?_⟩
  rw [k_fault_of]
  exact fun _ h => (nomatch h)
theorem k_kept_form : ksOf kl (Str.ofString "kept_form") = [] := by decide +kernel
theorem b_kept_form : BindOk (topOf P 7) (Str.ofString "kept_form") [Str.ofString "thing"] (ksOf kl (Str.ofString "kept_form")) := by
  refine ⟨fun _ _ _ _ _ _ us hl => match us, hl with | [_], _ => rfl, ?_⟩
  rw [k_kept_form]
  exact fun _ h => (nomatch h)
theorem k_is_list : ksOf kl (Str.ofString "is_list") = [] := by decide +kernel
theorem b_is_list : BindOk (topOf P 1) (Str.ofString "is_list") [Str.ofString "thing"] (ksOf kl (Str.ofString "is_list")) := by
  refine ⟨fun _ _ _ _ _ _ us hl => match us, hl with | [_], _ => rfl, ?_⟩
  rw [k_is_list]
  exact fun _ h => (nomatch h)
theorem k_is_number : ksOf kl (Str.ofString "is_number") = [] := by decide +kernel
theorem b_is_number : BindOk (topOf P 3) (Str.ofString "is_number") [Str.ofString "thing"] (ksOf kl (Str.ofString "is_number")) := by
  refine ⟨fun _ _ _ _ _ _ us hl => match us, hl with | [_], _ => rfl, ?_⟩
  rw [k_is_number]
  exact fun _ h => (nomatch h)
theorem k_is_row : ksOf kl (Str.ofString "is_row") = [] := by decide +kernel
theorem b_is_row : BindOk (topOf P 4) (Str.ofString "is_row") [Str.ofString "thing", Str.ofString "many"] (ksOf kl (Str.ofString "is_row")) := by
  refine ⟨fun _ _ _ _ _ _ us hl => match us, hl with | [_, _], _ => rfl, ?_⟩
  rw [k_is_row]
  exact fun _ h => (nomatch h)
theorem k_kept_tolls : ksOf kl (Str.ofString "kept_tolls") = [] := by decide +kernel
theorem b_kept_tolls : BindOk (topOf P 6) (Str.ofString "kept_tolls") [Str.ofString "stands", Str.ofString "thing"] (ksOf kl (Str.ofString "kept_tolls")) := by
  refine ⟨fun _ _ _ _ _ _ us hl => match us, hl with | [_, _], _ => rfl, ?_⟩
  rw [k_kept_tolls]
  exact fun _ h => (nomatch h)
theorem k_is_whole : ksOf kl (Str.ofString "is_whole") = [] := by decide +kernel
theorem b_is_whole : BindOk (topOf P 2) (Str.ofString "is_whole") [Str.ofString "thing"] (ksOf kl (Str.ofString "is_whole")) := by
  refine ⟨fun _ _ _ _ _ _ us hl => match us, hl with | [_], _ => rfl, ?_⟩
  rw [k_is_whole]
  exact fun _ h => (nomatch h)
def fn : List He.DefD := [defOf P (Str.ofString "law") 24,
 defOf P (Str.ofString "_law_bent") 23,
 defOf P (Str.ofString "_law_copied") 17,
 defOf P (Str.ofString "_law_draw") 14,
 defOf P (Str.ofString "_law_loose") 18,
 defOf P (Str.ofString "_law_same") 16,
 defOf P (Str.ofString "_law_store") 20,
 defOf P (Str.ofString "_law_store_fault") 21,
 defOf P (Str.ofString "_law_stream") 13,
 defOf P (Str.ofString "is_store") 10,
 defOf P (Str.ofString "store_fault") 11,
 defOf P (Str.ofString "_law_pick") 15,
 defOf P (Str.ofString "_law_closed") 19,
 defOf P (Str.ofString "_law_is_number") 22,
 defOf P (Str.ofString "kept_store") 9,
 defOf P (Str.ofString "fault_of") 8,
 defOf P (Str.ofString "kept_form") 7,
 defOf P (Str.ofString "is_list") 1,
 defOf P (Str.ofString "is_number") 3,
 defOf P (Str.ofString "is_row") 4,
 defOf P (Str.ofString "kept_tolls") 6,
 defOf P (Str.ofString "is_whole") 2]
def names0 : List PySem.Str := ["is_list", "is_whole", "is_number", "is_row", "kept_tolls", "kept_form", "fault_of", "kept_store", "is_store", "store_fault", "_law_stream", "_law_draw", "_law_pick", "_law_same", "_law_copied", "_law_loose", "_law_closed", "_law_store", "_law_store_fault", "_law_is_number", "_law_bent"]
def names : List PySem.Str := names0
abbrev R : PySem.W.OpenRow := PySem.W.OpenLaw.row PySem.Challenge.rw_paidlater_k01_stores_known
abbrev hk : PySem.W.Hook := hookQ 4 (faOf T bs tb) fn tb
def ob (s : PySem.W.SharedT) : He.AlD × Bool := obQ 4 (faOf T bs tb) fn tb (HandSHeadRun.getT s)
theorem ob_eq (s : PySem.W.SharedT) : ob s = hk.obs s.abs := obQ_eq (HandSHeadRun.getT_eq s)
theorem run (w : World) : HandSHeadRun.RunEq R (PySem.W.view R.prog [24]) hk ob 6000 names w := by
  intro os
  kernel_rfl
theorem entries {w : World} {K : PySem.W.Frag} {mg : Str → Option Value} {base h : Heap} (X : K.In h) (G : h.Ns mainGlobals mg) (s : He.SaysD (faOf T bs tb) fn K) : ∀ p ∈ T, ∃ a fd, FnI P w K mg base kl p.1 p.2.ps a fd ∧ match p.2.prim with
      | none => ∃ st, FunD K p.1 p.1 (defArgs st) (defBody st) (defScope st) [] [] a fd ∧ chkFn (T.map (·.1)) bs gs kl p.2 st = true
      | some g => ∀ Z : EnvQ, Z.ar p.1 = p.2.ps → Z.md p.1 = p.2.md → (∀ ds, Z.call p.1 ds = g ds) → FnOk P w K mg base (L2.CX P w) (8 + 1) a fd p.2.ps (SpF K mg Z p.1) := by
  intro p hp
  have hp0 := hp
  unfold T at hp
  rcases List.mem_cons.mp hp with rfl | hp
  · exact entry_of (c := 8) (i := 0) (j := 24) X G s hp0 rfl rfl b_law c_law
  rcases List.mem_cons.mp hp with rfl | hp
  · exact entry_of (c := 8) (i := 1) (j := 23) X G s hp0 rfl rfl b__law_bent c__law_bent
  rcases List.mem_cons.mp hp with rfl | hp
  · exact entry_of (c := 8) (i := 2) (j := 17) X G s hp0 rfl rfl b__law_copied c__law_copied
  rcases List.mem_cons.mp hp with rfl | hp
  · exact entry_of (c := 8) (i := 3) (j := 14) X G s hp0 rfl rfl b__law_draw c__law_draw
  rcases List.mem_cons.mp hp with rfl | hp
  · exact entry_of (c := 8) (i := 4) (j := 18) X G s hp0 rfl rfl b__law_loose c__law_loose
  rcases List.mem_cons.mp hp with rfl | hp
  · exact entry_of (c := 8) (i := 5) (j := 16) X G s hp0 rfl rfl b__law_same c__law_same
  rcases List.mem_cons.mp hp with rfl | hp
  · exact entry_of (c := 8) (i := 6) (j := 20) X G s hp0 rfl rfl b__law_store c__law_store
  rcases List.mem_cons.mp hp with rfl | hp
  · exact entry_of (c := 8) (i := 7) (j := 21) X G s hp0 rfl rfl b__law_store_fault c__law_store_fault
  rcases List.mem_cons.mp hp with rfl | hp
  · exact entry_of (c := 8) (i := 8) (j := 13) X G s hp0 rfl rfl b__law_stream c__law_stream
  rcases List.mem_cons.mp hp with rfl | hp
  · exact entry_of (c := 8) (i := 9) (j := 10) X G s hp0 rfl rfl b_is_store c_is_store
  rcases List.mem_cons.mp hp with rfl | hp
  · exact entry_of (c := 8) (i := 10) (j := 11) X G s hp0 rfl rfl b_store_fault c_store_fault
  rcases List.mem_cons.mp hp with rfl | hp
  · exact entry_of (c := 8) (i := 11) (j := 15) X G s hp0 rfl rfl b__law_pick c__law_pick
  rcases List.mem_cons.mp hp with rfl | hp
  · exact entry_of (c := 8) (i := 12) (j := 19) X G s hp0 rfl rfl b__law_closed c__law_closed
  rcases List.mem_cons.mp hp with rfl | hp
  · exact entry_of (c := 8) (i := 13) (j := 22) X G s hp0 rfl rfl b__law_is_number c__law_is_number
  rcases List.mem_cons.mp hp with rfl | hp
  · exact entry_of (c := 8) (i := 14) (j := 9) X G s hp0 rfl rfl b_kept_store c_kept_store
  rcases List.mem_cons.mp hp with rfl | hp
  · exact entry_of (c := 8) (i := 15) (j := 8) X G s hp0 rfl rfl b_fault_of c_fault_of
  rcases List.mem_cons.mp hp with rfl | hp
  · exact entry_of (c := 8) (i := 16) (j := 7) X G s hp0 rfl rfl b_kept_form c_kept_form
  rcases List.mem_cons.mp hp with rfl | hp
  · exact entry_of (c := 8) (i := 17) (j := 1) X G s hp0 rfl rfl b_is_list c_is_list
  rcases List.mem_cons.mp hp with rfl | hp
  · exact entry_of (c := 8) (i := 18) (j := 3) X G s hp0 rfl rfl b_is_number c_is_number
  rcases List.mem_cons.mp hp with rfl | hp
  · exact entry_of (c := 8) (i := 19) (j := 4) X G s hp0 rfl rfl b_is_row c_is_row
  rcases List.mem_cons.mp hp with rfl | hp
  · exact entry_of (c := 8) (i := 20) (j := 6) X G s hp0 rfl rfl b_kept_tolls c_kept_tolls
  obtain rfl := List.mem_singleton.mp hp
  · exact entry_of (c := 8) (i := 21) (j := 2) X G s hp0 rfl rfl b_is_whole c_is_whole
end K01
open PySem PySem.W PySem.Calls PyProof.Rows
theorem K01.holds_of {n N : Nat} (hr : L2.Room (n + 8 + 2) callerA) (plain : ∀ ns : List Int, ns.length ≤ 63 → (Q.envN K01.T (Q.constG K01.tb) N (n + 1)).call ("law" : PySem.Str) [.frz (ns.map Q.D.int)] = .ok (.bl true, [])) : PySem.Challenge.rw_paidlater_k01_stores_known.Holds := by
  w_on; o_law
  refine HandSHeadRun.head_any (r := K01.R) (q := view K01.R.prog [24]) (H := K01.hk) (ob := K01.ob) (M := 6000) (loose := K01.names) (d := HandSHeadRun.topDef K01.R.prog 24) (kwd := []) K01.ob_eq
    (by kernel_rfl) (fun s => by kernel_rfl) K01.run (by kernel_rfl) (by kernel_rfl) (by kernel_rfl) (by rfl) (by first | assumption | decide +kernel) (by decide +kernel) ⟨rfl, rfl, rfl, rfl, rfl, by decide +kernel⟩ ?hw ?hc
  case hw => w_witness2
  case hc =>
    exact Q.walk_T (l := PySem.Challenge.rw_paidlater_k01_stores_known) (i := 0) (j := 24) (fd0 := K01.fn_law) rfl (by decide) (by kernel_rfl) hr (by kernel_rfl) (by decide +kernel) rfl rfl rfl rfl rfl K01.c_law K01.b_law (fun X G s => K01.entries X G s) plain

theorem PySem.Challenge.cw_paidlater_k01_stores_known_holds : PySem.Challenge.rw_paidlater_k01_stores_known.Holds :=
  K01.holds_of (n := 10) (N := K01.NN) ⟨rfl, by decide, by decide⟩ fun ns h => K01.law_plain (m := 2) ns h
