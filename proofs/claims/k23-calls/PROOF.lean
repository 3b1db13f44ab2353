import PyProof.Rows.All
import Wide.All
import OpenK.AllK
import Wide.FinOn
import HandS.ForMost
import HandS.IsInst
import HandS.Rev
import HandS.Style
import HandS.Conv
import HandS.TupAny
import HandS.Evl
import HandS.Walk
import HandS.Deep
import HandS.Zip
import PyProof.ListStr
import KE.SortData
import KE.SortKeyHeap
import PyProof.ReprRoads
import KE.GoesEnum
import HandS.RaiseMore
import PyProof.ReprLen
import PyProof.Rows.RegStrFacts
import HandS.TryOnly
import PyProof.Rows.CallKwBuiltin
import HandS.TupMul
import HandS.DictTup
import HandS.TupLen
import PySem.Challenge.RW_curvekept_k23_maps_of_calls
set_option Elab.async false
set_option linter.all false
set_option maxRecDepth 100000
set_option maxHeartbeats 2000000
/-! Rules of the layer with the written part as a letter of its own, so that they serve within comprehensions. -/
namespace CB
open PySem PySem.Spec PyProof.Rows L2
section
variable {X : Cx} {K : PySem.W.Frag} {tg e e2 : Expr} {es : List Expr} {ta : TA} {te tl : TE}
abbrev rLenQ (K : PySem.W.Frag) : List V → Hp → VK → Prop := fun xs H Q => ∃ p ys, xs = [.ref p] ∧ (SqL K H p ys ∨ SqT K H p ys) ∧ Q (.int ys.length) H
abbrev rListQ (K : PySem.W.Frag) : List V → Hp → VK → Prop := fun xs H Q => ∃ p ys, xs = [.ref p] ∧ (SqL K H p ys ∨ SqT K H p ys) ∧ ∀ l, H l = none → Q (.ref l) (upd H l (.lst ys))
abbrev rTupleQ (K : PySem.W.Frag) : List V → Hp → VK → Prop := fun xs H Q => ∃ p ys, xs = [.ref p] ∧ ((SqL K H p ys ∧ ∀ l, H l = none → Q (.ref l) (upd H l (.tup ys))) ∨ (SqT K H p ys ∧ Q (.ref p) H))
theorem call_lenK (hK : X.K = K := by rfl) : CallR X (.builtin "len") (rLenQ K) := hK ▸ call_len_seq
theorem call_listK (hK : X.K = K := by rfl) : CallR X (.type "list") (rListQ K) := hK ▸ call_list_of
theorem call_tupleK (hK : X.K = K := by rfl) : CallR X (.type "tuple") (rTupleQ K) := hK ▸ call_tuple_of
theorem cr_sumK (hc : X.calm = true) (hK : X.K = K := by rfl) : CallR X (.builtin "sum") (rSum K) := hK ▸ cr_sum hc
theorem cr_allK (hc : X.calm = true) (hK : X.K = K := by rfl) : CallR X (.builtin "all") (rAll K) := hK ▸ cr_all hc
theorem cr_anyK (hc : X.calm = true) (hK : X.K = K := by rfl) : CallR X (.builtin "any") (rAny K) := hK ▸ cr_any hc
theorem call_isiK' (hK : X.K = K := by rfl) : CallR X (.builtin "isinstance") (rIsi K) := hK ▸ call_isi
theorem ix_listK (hK : X.K = K := by rfl) : IxR X (rIxL K) := hK ▸ ix_list
theorem ix_tupK (hK : X.K = K := by rfl) : IxR X (rIxT K) := hK ▸ ix_tup
theorem sl_listK (hK : X.K = K := by rfl) : SlR X (rSlL K) := hK ▸ sl_list
theorem sl_tupK (hK : X.K = K := by rfl) : SlR X (rSlA K) := hK ▸ sl_tupA
theorem op_inK (hK : X.K = K := by rfl) : OpR X (compareOp .In) (rIn K false) := hK ▸ op_in_seq
theorem op_notInK (hK : X.K = K := by rfl) : OpR X (compareOp .NotIn) (rIn K true) := hK ▸ op_notIn_seq
theorem op_eqDK (hu : X.A.units + 64 < cLine) (hK : X.K = K := by rfl) : OpR X (compareOp .Eq) (rEqD K) := hK ▸ op_eqD hu
theorem op_neDK (hu : X.A.units + 64 < cLine) (hK : X.K = K := by rfl) : OpR X (compareOp .NotEq) (rNeD K) := hK ▸ op_neD hu
theorem op_catK (hK : X.K = K := by rfl) : OpR X (binaryOp .Add) (rCatA K) := hK ▸ op_catA
theorem pi_listK (hl : PE X e tl) (hK : X.K = K := by rfl) : PI X tg e (iList K tl) := hK ▸ pi_list hl
theorem pi_tupK (hl : PE X e tl) (hK : X.K = K := by rfl) : PI X tg e (iTup K tl) := hK ▸ pi_tup hl
theorem pi_enumK {p pos tpos : Pos} {elts : List Expr} {kk : Nat} (hg : Gl X "enumerate") (hm : X.mg "enumerate" = none) (ha : PA X [e] ta) (hs : starEach [e] X.env = [(false, eval e X.env)] := by rfl) (hK : X.K = K := by rfl) :
    PI X (.Tuple elts kk tpos) (.Call (.Name "enumerate" p) [e] [] pos) (iEnum K ta) := hK ▸ pi_enum hg hm ha hs
theorem pi_zipK {p pos tpos : Pos} {elts : List Expr} {kk : Nat} (hg : Gl X "zip") (hm : X.mg "zip" = none) (ha : PA X [e, e2] ta)
    (hs : starEach [e, e2] X.env = (false, eval e X.env) :: starEach [e2] X.env := by rfl) (hpl : (backTo pos (starEach [e2] X.env)).any (·.1) = false := by rfl) (hK : X.K = K := by rfl) :
    PI X (.Tuple elts kk tpos) (.Call (.Name "zip" p) [e, e2] [] pos) (iZip K ta) := hK ▸ pi_zip hg hm ha hs hpl
theorem pg_tupK {es : List Expr} {k n : Nat} {t : TGs} {pos : Pos} (hc : X.calm = true) (h : PGs X es t)
    (hn : (assignEach es X.env).length = n := by rfl) (hst : (assignEach es X.env).findIdx? (·.1) = none := by rfl) (hK : X.K = K := by rfl) : PG X (.Tuple es k pos) (gTup K n t) := hK ▸ pg_tup hc h hn hst
theorem pe_revK {k : Nat} {p1 p2 p3 pos : Pos} (he : PE X e te) (hK : X.K = K := by rfl) : PE X (.Subscript e (.Slice none none (some (.UnaryOp .USub (.Constant (.int 1) k p1) p2)) p3) pos) (tRevL K te) := hK ▸ pe_revL he
theorem pe_bmK {o : Expr} {to : TE} {T id : String} {name : Str} {r : V → List V → Hp → VK → Prop} {apos cpos : Pos} (pa : PlainAttrs T) (slot : Slot T name id) (hty : typeOf (.builtin id) = pure (.type "method_descriptor")) (hm : MtR X id r) (ho : PE X o to) (ha : PA X (e :: es) ta)
    (hbase : attributeBase o name X.env (eval o X.env) = eval o X.env := by rfl)
    (hfew : ((backTo cpos (starEach (e :: es) X.env)).all (fun x => !x.1) && (backToKw cpos (keywordEach [] X.env)).all (fun x => x.1.isSome)
      && decide ((e :: es).length + ([] : List Keyword).length + (if ([] : List Keyword).isEmpty then 0 else 1) < 30)) = true := by rfl)
    (hline : (apos.endLine == cpos.line) = true := by rfl) (hs : starEach (e :: es) X.env = (false, eval e X.env) :: starEach es X.env := by rfl) (hplain : (backTo cpos (starEach es X.env)).any (·.1) = false := by rfl) (hK : X.K = K := by rfl) :
    PE X (.Call (.Attribute o name apos) (e :: es) [] cpos) (tBM K T r to ta) := hK ▸ pe_bm pa slot hty hm ho ha hbase hfew hline hs hplain
end
end CB

set_option Elab.async false
set_option linter.all false
set_option maxRecDepth 100000
set_option maxHeartbeats 2000000
namespace CB
open PySem PySem.Spec PyProof.Rows L2

/-! ### the built-ins -/
theorem bt_abs : bootBuiltins "abs" = some (.builtin "abs") := by decide +kernel
theorem bt_all : bootBuiltins "all" = some (.builtin "all") := by decide +kernel
theorem bt_any : bootBuiltins "any" = some (.builtin "any") := by decide +kernel
theorem bt_isinstance : bootBuiltins "isinstance" = some (.builtin "isinstance") := by decide +kernel
theorem bt_len : bootBuiltins "len" = some (.builtin "len") := by decide +kernel
theorem bt_max : bootBuiltins "max" = some (.builtin "max") := by decide +kernel
theorem bt_min : bootBuiltins "min" = some (.builtin "min") := by decide +kernel
theorem bt_repr : bootBuiltins "repr" = some (.builtin "repr") := by decide +kernel
theorem bt_sorted : bootBuiltins "sorted" = some (.builtin "sorted") := by decide +kernel
theorem bt_sum : bootBuiltins "sum" = some (.builtin "sum") := by decide +kernel
theorem bt_ord : bootBuiltins "ord" = some (.builtin "ord") := by decide +kernel
theorem bt_chr : bootBuiltins "chr" = some (.builtin "chr") := by decide +kernel
theorem bt_bool : bootBuiltins "bool" = some (.type "bool") := by decide +kernel
theorem bt_dict : bootBuiltins "dict" = some (.type "dict") := by decide +kernel
theorem bt_int : bootBuiltins "int" = some (.type "int") := by decide +kernel
theorem bt_list : bootBuiltins "list" = some (.type "list") := by decide +kernel
theorem bt_set : bootBuiltins "set" = some (.type "set") := by decide +kernel
theorem bt_str : bootBuiltins "str" = some (.type "str") := by decide +kernel
theorem bt_tuple : bootBuiltins "tuple" = some (.type "tuple") := by decide +kernel
/-! ### list(reversed(l)) -/
section
variable {prog : Program} {w : World} {A : Around} {E : Value → Shared → Prop} {s : Shared}
theorem extend_rev {it l S : Addr} {items : Array Value} {c0 : Nat} {R : Result → Shared → Prop} (hh : A.handled = none) (hit : s.heap.IsRevIter it l ((items.size : Int) - 1)) (hl : s.heap.IsList l items) (hne : l ≠ it) (hn : items.size ≤ sizeLine)
    (hS : s.heap.get? S = some { cls := .type "list", data := .seq #[] c0 }) (hSi : S ≠ it) (hSl : S ≠ l)
    (hR : ∀ s' acc c', (∀ b o, b ≠ S → b ≠ it → s.heap.get? b = some o → s'.heap.get? b = some o) → (∃ h' tk, s' = { s with heap := h', toks := tk }) →
      s'.heap.get? S = some { cls := .type "list", dict := none, data := .seq acc c', slots := #[] } → ItemsOf (fun i v => items[items.size - 1 - i]? = some v) acc items.size → R (.ok (.ret .none)) s') :
    wpAny (model prog w) A.in1 (Builtin.List.listExtendWith (.ref S) (.ref it) .none)
      (fun fin s' => match fin with | .done f => R (.ok f) s' | .again c' => c'.quiet = true ∧ codeAny (model prog w) A c' R s') (fun e s' => R (.error e) s') s := by
  have W := (Walks.listRev (prog := prog) (w := w) (A := A.in1) hh it l hne items).toS
  have hSf : S ∉ [it, l] := by simp only [List.mem_cons, List.not_mem_nil, or_false, not_or]; exact ⟨hSi, hSl⟩
  have hT := hit.typeIs
  have h1 : Builtin.List.listSameRef (.ref S) (.ref it) = false := by simp [Builtin.List.listSameRef, hSi]
  unfold Builtin.List.listExtendWith
  refine wpAny_bind (wpAny_typeOf hT ?_)
  rw [if_neg (by rw [h1]; decide)]
  refine wpAny_bind (wpAny_pyIter_revIter hit ?_)
  refine wpAny_bind (wpAny_holding ?_)
  unfold Builtin.List.listLengthHint
  refine wpAny_bind (wpAny_specialOf hT RT.nolen_lri ?_)
  show wpAny _ A.in1 (specialOf (Value.ref it) (Str.ofString "__length_hint__") >>= _) _ _ _
  refine wpAny_bind (wpAny_specialOf hT RT.hint_lri ?_)
  generalize hid : ("list_reverseiterator.__length_hint__" : String) = id0
  wp_delta
  rw [show splitId id0 = some ("list_reverseiterator", "__length_hint__") from by subst hid; decide +kernel]
  subst hid
  refine wpAny_bind (wpAny_isInstance (b := true) hT (by rw [isSubtype_type]; kernel_rfl) ?_)
  refine wpAny_pure ?_
  rw [if_neg (by decide)]
  have e0 : ((items.size : Nat) : Int) - 1 - ((0 : Nat) : Int) = (items.size : Int) - 1 := by omega
  refine wpAny_pure ⟨plainId_quiet F.plain_extend_loop _, codeAny_extend_loopS W hn _ hSf _ items.size 0 _ _ _ rfl (Nat.zero_le _) ⟨Nat.zero_le _, by rw [e0]; exact hit, hl⟩ hS (ItemsOf.nil _) fun s' acc' c' hm hS' hacc => ?_⟩
  refine hR s' acc' c' (fun b o hb hb2 e => hm.heap b o (fun hmem => ?_) e) ⟨_, _, Moved.eq_with hm⟩ hS' hacc
  rcases List.mem_cons.mp hmem with e' | hmem
  · exact hb e'
  · exact hb2 (List.mem_singleton.mp hmem)
theorem call_list_rev {it l : Addr} {items : Array Value} {Q : Value → Shared → Prop} (hh : A.handled = none) (hit : s.heap.IsRevIter it l ((items.size : Int) - 1)) (hl : s.heap.IsList l items) (hne : l ≠ it) (hn : items.size ≤ sizeLine)
    (hQ : ∀ h' tk acc c', (∀ b o, b ≠ it → s.heap.get? b = some o → h'.get? b = some o) → h'.get? s.heap.objs.size = some { cls := .type "list", dict := none, data := .seq acc c', slots := #[] } →
      ItemsOf (fun i v => items[items.size - 1 - i]? = some v) acc items.size → Q (.ref s.heap.objs.size) { s with heap := h', toks := tk }) :
    wpAny (model prog w) A (call (.type "list") [.ref it]) Q E s := by
  obtain ⟨oi, hoi, _⟩ := id hit
  obtain ⟨ol, hol, _⟩ := id hl
  have hSi : s.heap.objs.size ≠ it := Nat.ne_of_gt (Heap.lt_size hoi)
  have hSl : s.heap.objs.size ≠ l := Nat.ne_of_gt (Heap.lt_size hol)
  refine callType_codes (Q₁ := fun obj s₁ => obj = .ref s.heap.objs.size ∧ s₁ = { s with heap := s.heap.push { cls := .type "list", data := .seq #[] } }) F.called_list (F.typeCall_list_1 _) F.entry_list_init
    (code_list_new _ ⟨rfl, rfl⟩) fun obj s₁ h₁ => ?_
  obtain ⟨rfl, rfl⟩ := h₁
  have hS : (s.heap.push { cls := .type "list", data := .seq #[] }).get? s.heap.objs.size = some { cls := .type "list", data := .seq #[] } := Heap.get?_push_size _ rfl
  refine ⟨⟨_, hS, rfl⟩, F.args_list_init_2 _ _, ?_⟩
  show wpAny _ A.in1.in1 (do let old ← Builtin.List.listItems (.ref s.heap.objs.size); Builtin.List.listUpdate (.ref s.heap.objs.size) (fun _ => #[]); letGo old.toList.reverse; Builtin.List.listExtendWith (.ref s.heap.objs.size) (.ref it) .none) _ _ _
  refine wpAny_bind ?_
  unfold Builtin.List.listItems
  refine wpAny_bind (wpAny_seqItems hS rfl (wpAny_pure ?_))
  show wpAny _ _ (updateSeq s.heap.objs.size (fun _ => #[]) >>= fun _ => letGo (#[] : Array Value).toList.reverse >>= fun _ => Builtin.List.listExtendWith (.ref s.heap.objs.size) (.ref it) .none) _ _ _
  refine wpAny_bind (wpAny_updateSeq hS rfl ?_)
  have hS2 := Heap.get?_update_self (Obj.mapSeq (fun _ => (#[] : Array Value))) hS rfl
  have oth : ∀ b o, s.heap.get? b = some o → ((s.heap.push { cls := .type "list", data := .seq #[] }).update s.heap.objs.size (Obj.mapSeq (fun _ => (#[] : Array Value)))).get? b = some o :=
    fun b o e => (Heap.get?_update_other _ _ (Nat.ne_of_gt (Heap.lt_size e))).trans (Heap.get?_push_of_some _ e)
  refine wpAny_bind (wpAny_letGo ?_)
  refine extend_rev (A := A.in1) hh (hit.at fun o e => oth _ o e) (Heap.IsList.at hl fun o e => oth _ o e) hne hn hS2 hSi hSl fun s' acc c' hk he hS' hi => ?_
  obtain ⟨h', tk, rfl⟩ := he
  exact ⟨rfl, hQ h' tk acc c' (fun b o hb e => hk b o (Nat.ne_of_lt (Heap.lt_size e)) hb (oth b o e)) hS' hi⟩
end
/-- list(reversed(x)), x a list: a new list -/
def tListRev (K : PySem.W.Frag) (te : TE) : TE := fun σ H Q => te σ H fun v H1 => ∃ (a : Addr) (xs : List V), v = .ref a ∧ SqL K H1 a xs ∧ ∀ q, H1 q = none → Q (.ref q) (upd H1 q (.lst xs.reverse))
section
variable {X : Cx}
theorem pe_listRev0 {e : Expr} {te : TE} {p p2 pos pos2 : Pos} (hc : X.calm = true) (hg : Gl X "list") (hm : X.mg "list" = none) (hg2 : Gl X "reversed") (hm2 : X.mg "reversed" = none) (he : PE X e te)
    (hs : starEach [e] X.env = (false, eval e X.env) :: starEach [] X.env := by rfl)
    (hs2 : starEach [.Call (.Name "reversed" p2) [e] [] pos2] X.env = (false, eval (.Call (.Name "reversed" p2) [e] [] pos2) X.env) :: starEach [] X.env := by rfl) :
    PE X (.Call (.Name "list" p) [.Call (.Name "reversed" p2) [e] [] pos2] [] pos) (tListRev X.K te) := by
  refine ⟨fun pins s σ H Q I h => ?_⟩
  refine Call_ (ld_blt I hg hm boot_list (PyProof.Rows.callWith_type1 (args_cons (Call_ (ld_blt I hg2 hm2 PyProof.Rows.boot_reversed (PyProof.Rows.callWith_type1 (args_cons (thn (he.run pins s σ H _ I h) fun u s1 ⟨v, H1, I1, r1, q1⟩ => args_nil ?_) hs) hs rfl))) hs2) hs2 rfl))
  obtain ⟨a, xs, ev, hq, q⟩ := q1
  subst ev
  obtain rfl : u = Value.ref a := r1
  obtain ⟨its, rv, p', hz⟩ := I1.list hq
  refine call_reversed_list p'.isList (args_nil ?_)
  have k0 : ∀ b o, s1.heap.get? b = some o → (s1.heap.push (revObj a ((its.toArray.size : Int) - 1))).get? b = some o := fun b o e => Heap.get?_push_of_some _ e
  have I2 : Inv X pins σ H1 { s1 with heap := s1.heap.push (revObj a ((its.toArray.size : Int) - 1)) } := I1.kept (t' := s1.toks) k0
  obtain ⟨f0, f1, f2, f3, f4, f5⟩ := I1.fpOk (H' := H1) (b := s1.heap.objs.size) (Nat.le_refl _) (I1.hok.fresh (Nat.le_refl _))
  have hl := p'.isList
  obtain ⟨ol, hol, _⟩ := id hl
  have hne : a ≠ s1.heap.objs.size := Nat.ne_of_lt (Heap.lt_size hol)
  have hn : its.toArray.size ≤ sizeLine := by rw [List.size_toArray, ← rv.length]; exact hz
  refine call_list_rev (s := { s1 with heap := s1.heap.push (revObj a ((its.toArray.size : Int) - 1)) }) (I1.ok.hd hc) ⟨_, Heap.get?_push_size _ rfl, rfl, rfl⟩ (hl.push _) hne hn fun h' tk acc c' hk hS' hi => ?_
  refine ⟨.ref _, upd H1 _ (.lst xs.reverse), I1.laid (t' := tk) (fun b u e => hk b u (Nat.ne_of_lt (Heap.lt_size e)) (k0 b u e)) (by rw [Heap.size_push]; omega) (show ObjOk X.prog X.w _ _ _ (.lst xs.reverse) from ⟨by rw [List.length_reverse]; exact hz, acc.toList, c', RT.vals_rev rv hi, ?_⟩), rfl, q _ (I2.hok.fresh (Nat.le_refl _))⟩
  rw [Array.toArray_toList]
  exact hS'
theorem pe_listRev {K : PySem.W.Frag} {e : Expr} {te : TE} {p p2 pos pos2 : Pos} (hc : X.calm = true) (hg : Gl X "list") (hm : X.mg "list" = none) (hg2 : Gl X "reversed") (hm2 : X.mg "reversed" = none) (he : PE X e te)
    (hs : starEach [e] X.env = (false, eval e X.env) :: starEach [] X.env := by rfl)
    (hs2 : starEach [.Call (.Name "reversed" p2) [e] [] pos2] X.env = (false, eval (.Call (.Name "reversed" p2) [e] [] pos2) X.env) :: starEach [] X.env := by rfl) (hK : X.K = K := by rfl) :
    PE X (.Call (.Name "list" p) [.Call (.Name "reversed" p2) [e] [] pos2] [] pos) (tListRev K te) := hK ▸ pe_listRev0 hc hg hm hg2 hm2 he hs hs2
/-! ### list(a text) -/
theorem call_listS (hc : X.calm = true) : CallR X (.type "list") (fun xs H Q => ∃ z : Str, xs = [.str z] ∧ z.length ≤ sizeLine ∧ ∀ l, H l = none → Q (.ref l) (upd H l (.lst (z.cps.toList.map fun c => V.str ⟨#[c]⟩)))) := by
  intro pins s σ H xs us Q I r h
  obtain ⟨z, rfl, hz, q⟩ := h
  obtain ⟨u, rfl, t, rfl⟩ := vals1 r
  refine PySem.call_list_str (I.ok.hd hc) z t (fun h' tk acc' c' hk hS hi => ?_) hz
  refine ⟨.ref s.heap.objs.size, upd H s.heap.objs.size _, I.laid hk (Nat.le_refl _) (show ObjOk X.prog X.w _ _ _ (.lst (z.cps.toList.map fun c => V.str ⟨#[c]⟩)) from ⟨?_, acc'.toList, c', ?_, ?_⟩), rfl, q _ (I.hok.fresh (Nat.le_refl _))⟩
  · rw [List.length_map, Array.length_toList]; exact hz
  · have el : acc'.toList.length = acc'.size := by simp
    refine vals_of_at (by rw [List.length_map, Array.length_toList, el, hi.1]) fun j x w h1 h2 => ?_
    have h3 := hi.2 j w (by rw [← Array.getElem?_toList]; exact h2)
    rw [List.getElem?_map] at h1
    obtain ⟨c, hc1, rfl⟩ := Option.map_eq_some_iff.mp h1
    obtain ⟨c2, u, e1, rfl⟩ := h3
    rw [Array.getElem?_toList] at hc1
    rw [hc1] at e1
    cases e1
    exact ⟨u, rfl⟩
  · rw [Array.toArray_toList]; exact hS
end
end CB

set_option Elab.async false
set_option linter.all false
set_option maxRecDepth 100000
set_option maxHeartbeats 2000000
/-! zip of two sequences, each a list or a tuple, in any mix -/
namespace CB
open PySem PySem.Spec PyProof.Rows L2
inductive SK | L | T
def SqK (k : SK) (K : PySem.W.Frag) (H : Hp) (a : Addr) (xs : List V) : Prop := match k with | .L => SqL K H a xs | .T => SqT K H a xs
def IterK (k : SK) (h : Heap) (it a : Addr) (i : Nat) : Prop := match k with | .L => h.IsListIter it a i | .T => h.IsTupleIter it a i
def HasK (k : SK) (h : Heap) (a : Addr) (items : Array Value) : Prop := match k with | .L => h.IsList a items | .T => h.IsTuple a items
def iterObj (k : SK) (a : Addr) : Obj := match k with | .L => { cls := .type "list_iterator", data := .fields #[.ref a, .int 0 0] } | .T => { cls := .type "tuple_iterator", data := .fields #[.ref a, .int 0 0] }
section
variable {k : SK} {h h' : Heap} {it a : Addr} {i : Nat} {items : Array Value}
theorem IterK.at (x : IterK k h it a i) (e : ∀ o, h.get? it = some o → h'.get? it = some o) : IterK k h' it a i := by
  cases k with
  | L => exact Heap.IsListIter.at x e
  | T => exact Heap.IsTupleIter.at x e
theorem IterK.obj (x : IterK k h it a i) : ∃ o, h.get? it = some o ∧ ∀ v, o.data ≠ .cell v := by
  cases k with
  | L =>
    obtain ⟨o, e, _, d⟩ := x
    exact ⟨o, e, fun v q => by rw [d] at q; cases q⟩
  | T =>
    obtain ⟨o, e, _, d⟩ := x
    exact ⟨o, e, fun v q => by rw [d] at q; cases q⟩
theorem IterK.start (e : h.get? it = some (iterObj k a)) : IterK k h it a 0 := by
  cases k with
  | L => exact ⟨_, e, rfl, rfl⟩
  | T => exact ⟨_, e, rfl, rfl⟩
theorem HasK.lt (x : HasK k h a items) : a < h.objs.size := by
  cases k with
  | L => obtain ⟨o, e, _⟩ := x; exact Heap.lt_size e
  | T => obtain ⟨o, e, _⟩ := x; exact Heap.lt_size e
theorem drawsK {prog : Program} {w : World} {A : Around} (hh : A.handled = none) (k : SK) (it a : Addr) (hne : a ≠ it) (items : Array Value) :
    Draws prog w A it [it, a] items.size (fun i v => items[i]? = some v) (fun i h => IterK k h it a i ∧ HasK k h a items) := by
  cases k with
  | L => exact Draws.list hh it a hne items
  | T => exact Draws.tuple hh it a hne items
theorem beginsK (k : SK) (a : Addr) (items : Array Value) : Begins (.ref a) (iterObj k a) fun h => HasK k h a items := by
  cases k with
  | L => exact begins_list a items
  | T => exact begins_tuple a items
theorem InvK {X : Cx} {pins : List (Addr × Obj)} {σ : L2.St} {H : Hp} {s : Shared} {xs : List V} (I : Inv X pins σ H s) (hq : SqK k X.K H a xs) : ∃ its : List Value, Vals xs its ∧ HasK k s.heap a its.toArray ∧ ∀ ys, SqK k X.K H a ys → ys = xs := by
  cases k with
  | L =>
    obtain ⟨its, rv, p, _⟩ := I.list hq
    exact ⟨its, rv, p.isList, fun ys hy => I.list_inj hy hq⟩
  | T =>
    obtain ⟨its, rv, p, _⟩ := I.tuple hq
    exact ⟨its, rv, p, fun ys hy => I.tuple_inj hy hq⟩
end
def ItzK (k1 k2 : SK) (K : PySem.W.Frag) (a b : Addr) : It :=
  ⟨fun i H => ∃ (xs ys : List V) (x y : V), SqK k1 K H a xs ∧ SqK k2 K H b ys ∧ xs[i]? = some x ∧ ys[i]? = some y,
    fun i H v H' => ∃ T x y, v = .ref T ∧ H T = none ∧ H' = upd H T (.tup [x, y]) ∧ (∀ xs, SqK k1 K H a xs → xs[i]? = some x) ∧ ∀ ys, SqK k2 K H b ys → ys[i]? = some y,
    fun i H => ∃ xs ys : List V, SqK k1 K H a xs ∧ SqK k2 K H b ys ∧ i ≤ xs.length ∧ i ≤ ys.length ∧ (i = xs.length ∨ i = ys.length)⟩
theorem turn_zipK {P : Program} {w : World} {K : PySem.W.Frag} {elts : List Expr} {kk : Nat} {tpos : Pos} {k1 k2 : SK} {a b z TI TO i1 i2 : Addr} (S : ZipSep2 z TI TO i1 i2 [i1, a] [i2, b]) (na : a ≠ i1) (nb : b ≠ i2) :
    Turn P w K (.Tuple elts kk tpos) (ItzK k1 k2 K a b) [z, TI, TO, i1, i2] z (fun i h => IsZip h z TI TO .none ∧ IsTupOf2 h TI (.ref i1) (.ref i2) ∧ (∃ x y, IsTupOf2 h TO x y) ∧ IterK k1 h i1 a i ∧ IterK k2 h i2 b i) where
  mem := by simp
  obj := fun i h st c hc => by
    obtain ⟨hz, hTI, ⟨x, y, hTO⟩, h1, h2⟩ := st
    simp only [List.mem_cons, List.not_mem_nil, or_false] at hc
    rcases hc with rfl | rfl | rfl | rfl | rfl
    · exact ⟨_, hz, fun v q => nomatch q⟩
    · exact ⟨_, hTI, fun v q => nomatch q⟩
    · exact ⟨_, hTO, fun v q => nomatch q⟩
    · exact h1.obj
    · exact h2.obj
  keep := fun i h h' st k => by
    obtain ⟨hz, hTI, ⟨x, y, hTO⟩, h1, h2⟩ := st
    exact ⟨k z (by simp) _ hz, k TI (by simp) _ hTI, ⟨x, y, k TO (by simp) _ hTO⟩, h1.at fun o q => k i1 (by simp) o q, h2.at fun o q => k i2 (by simp) o q⟩
  item := by
    intro X hP hw hK hc i pins s σ H E I hf st hg
    subst hP hw hK
    obtain ⟨hz, hTI, ⟨x0, y0, hTO⟩, h1, h2⟩ := st
    obtain ⟨xs, ys, x, y, hqx, hqy, hx, hy⟩ := hg
    obtain ⟨its, rv, p, inj1⟩ := InvK I hqx
    obtain ⟨its2, rv2, p2, inj2⟩ := InvK I hqy
    obtain ⟨u, hu, ru⟩ := rv.get hx
    obtain ⟨u2, hu2, ru2⟩ := rv2.get hy
    have hA : X.A.in1.handled = none := I.ok.hd hc
    have D1 := drawsK (prog := X.prog) (w := X.w) hA k1 i1 a na its.toArray
    have D2 := drawsK (prog := X.prog) (w := X.w) hA k2 i2 b nb its2.toArray
    have hzl : z < s.heap.objs.size := Heap.lt_size hz
    have lt1 : i < its.toArray.size := by
      have := (List.getElem?_eq_some_iff.mp hu).1
      simpa using this
    have lt2 : i < its2.toArray.size := by
      have := (List.getElem?_eq_some_iff.mp hu2).1
      simpa using this
    refine wpAny_pyNext_zipD2_item S D1 D2 hz hTI hTO ⟨h1, p⟩ ⟨h2, p2⟩ lt1 lt2 fun x1 x2 h' tk y1 y2 z' TO' st1 st2 hT hsz hk => ?_
    have e1 : x1 = u := by
      have q : its.toArray[i]? = some u := by simpa using hu
      rw [q] at y1
      exact (Option.some.inj y1).symm
    have e2 : x2 = u2 := by
      have q : its2.toArray[i]? = some u2 := by simpa using hu2
      rw [q] at y2
      exact (Option.some.inj y2).symm
    subst e1 e2
    refine ⟨_, rfl, wpAny_letOwnedTupleGo_zip (s := { s with heap := h', toks := tk }) z' fun h'' z'' sb => ?_⟩
    have hT2 : h''.get? s.heap.objs.size = some { cls := .type "tuple", data := .seq #[x1, x2] } := (sb.2 _ (Nat.ne_of_gt hzl)).trans hT
    have new : ObjOk X.prog X.w (upd H s.heap.objs.size (.tup [x, y])) h'' s.heap.objs.size (.tup [x, y]) :=
      ⟨by show 2 ≤ sizeLine; decide, [x1, x2], .cons ru (.cons ru2 .nil), ⟨_, hT2, rfl, _, rfl⟩⟩
    have I1 : Inv X pins σ (upd H s.heap.objs.size (.tup [x, y])) { s with heap := h'', toks := tk } :=
      I.turnedNew (t' := tk) (ch := [z, TI, TO, i1, i2]) (fun c o hb q => by
        simp only [List.mem_cons, List.not_mem_nil, or_false, not_or] at hb
        exact (sb.2 c hb.1).trans (hk c o hb.1 hb.2.2.1 hb.2.2.2.1 hb.2.2.2.2 q)) hf (Nat.le_refl _) new
    refine ⟨.ref s.heap.objs.size, _, I1, rfl, ⟨_, x, y, rfl, I.hok.fresh (Nat.le_refl _), rfl, fun l hl => by rw [inj1 l hl]; exact hx, fun l hl => by rw [inj2 l hl]; exact hy⟩, ⟨z'', ?_, ⟨x1, x2, ?_⟩, ?_, ?_⟩, fun c hcm => ?_⟩
    · exact (sb.2 _ S.TIz).trans (hk _ _ S.TIz S.TITO S.TIi1 S.TIi2 hTI)
    · exact (sb.2 _ S.TOz).trans TO'
    · exact st1.1.at fun o q => (sb.2 _ S.zi1.symm).trans q
    · exact st2.1.at fun o q => (sb.2 _ S.zi2.symm).trans q
    · have hlt : c < s.heap.objs.size := by
        simp only [List.mem_cons, List.not_mem_nil, or_false] at hcm
        rcases hcm with rfl | rfl | rfl | rfl | rfl
        · exact hzl
        · exact Heap.lt_size hTI
        · exact Heap.lt_size hTO
        · obtain ⟨_, e1, _⟩ := h1.obj; exact Heap.lt_size e1
        · obtain ⟨_, e2, _⟩ := h2.obj; exact Heap.lt_size e2
      rw [upd_ne (Nat.ne_of_lt hlt)]
      exact (hf c hcm).1
  done := by
    intro X hP hw hK hc i pins s σ H E I hf st hg
    subst hP hw hK
    obtain ⟨hz, hTI, ⟨x0, y0, hTO⟩, h1, h2⟩ := st
    obtain ⟨xs, ys, hqx, hqy, le1, le2, hend⟩ := hg
    obtain ⟨its, rv, p, inj1⟩ := InvK I hqx
    obtain ⟨its2, rv2, p2, inj2⟩ := InvK I hqy
    have l1 := rv.length
    have l2 := rv2.length
    have hA : X.A.in1.handled = none := I.ok.hd hc
    refine wpAny_pyNext_zipD2_end S (drawsK (prog := X.prog) (w := X.w) hA k1 i1 a na its.toArray) (drawsK (prog := X.prog) (w := X.w) hA k2 i2 b nb its2.toArray) hz hTI hTO ⟨h1, p⟩ ⟨h2, p2⟩ (by rw [List.size_toArray]; omega) (by rw [List.size_toArray]; omega) (by rw [List.size_toArray, List.size_toArray]; omega) fun h' tk hk => ?_
    refine ⟨rfl, I.turnedL (t' := tk) (ch := [z, TI, TO, i1, i2]) (fun c o hb q => ?_) hf⟩
    simp only [List.mem_cons, List.not_mem_nil, or_false, not_or] at hb
    exact hk c o hb.1 hb.2.2.1 hb.2.2.2.1 hb.2.2.2.2 q
  self := fun A i s Q E st h => wpAny_pyIter_zip st.1 h
def iZipK (k1 k2 : SK) (K : PySem.W.Frag) (ta : TA) : TI := fun σ H R => ta σ H fun vs H1 => ∃ a b xs ys, vs = [.ref a, .ref b] ∧ SqK k1 K H1 a xs ∧ SqK k2 K H1 b ys ∧ R (ItzK k1 k2 K a b) H1
theorem pi_zipM (k1 k2 : SK) {X : Cx} {K : PySem.W.Frag} {e e2 : Expr} {ta : TA} {p pos tpos : Pos} {elts : List Expr} {kk : Nat} (hg : Gl X "zip") (hm : X.mg "zip" = none) (ha : PA X [e, e2] ta)
    (hs : starEach [e, e2] X.env = (false, eval e X.env) :: starEach [e2] X.env := by rfl) (hpl : (backTo pos (starEach [e2] X.env)).any (·.1) = false := by rfl) (hK : X.K = K := by rfl) :
    PI X (.Tuple elts kk tpos) (.Call (.Name "zip" p) [e, e2] [] pos) (iZipK k1 k2 K ta) := by
  subst hK
  refine ⟨fun pins s σ H R I h => ?_⟩
  refine Call_ (ld_blt I hg hm PyProof.Rows.boot_zip (PyProof.Rows.callWith_type1 (thn (ha.run pos pins s σ H _ I h) fun us s1 hus => ?_) hs hpl))
  obtain ⟨vs, H1, I1, r1, a, b, xs, ys, rfl, hqx, hqy, q⟩ := hus
  obtain ⟨u1, u2, rfl, ra, rb⟩ := vals2 r1
  obtain rfl : u1 = Value.ref a := ra
  obtain rfl : u2 = Value.ref b := rb
  obtain ⟨its, rv, p1, _⟩ := InvK I1 hqx
  obtain ⟨its2, rv2, p2, _⟩ := InvK I1 hqy
  refine zip_begins2 (beginsK k1 a its.toArray) (beginsK k2 b its2.toArray) p1 p2 fun h' hz hTI hTO h1 h2 hsz hk => wpAny_pyIter_zip hz ?_
  have I2 : Inv X pins σ H1 { s1 with heap := h' } := I1.kept (t' := s1.toks) hk
  have la : a < s1.heap.objs.size := p1.lt
  have lb : b < s1.heap.objs.size := p2.lt
  have S : ZipSep2 (s1.heap.objs.size + 4) (s1.heap.objs.size + 2) (s1.heap.objs.size + 3) s1.heap.objs.size (s1.heap.objs.size + 1) (s1.heap.objs.size :: [a]) ((s1.heap.objs.size + 1) :: [b]) :=
    zip_sep2 (fun c hc => by rw [List.mem_singleton.mp hc]; exact la) (fun c hc => by rw [List.mem_singleton.mp hc]; exact lb)
  refine ⟨s1.heap.objs.size + 4, [s1.heap.objs.size + 4, s1.heap.objs.size + 2, s1.heap.objs.size + 3, s1.heap.objs.size, s1.heap.objs.size + 1], _, _, H1, rfl, I2, turn_zipK S (Nat.ne_of_lt la) (Nat.ne_of_lt (Nat.lt_succ_of_lt lb)), ⟨hz, hTI, ⟨_, _, hTO⟩, IterK.start h1, IterK.start h2⟩, fun c hc => ?_, q⟩
  have hle : s1.heap.objs.size ≤ c := by
    simp only [List.mem_cons, List.not_mem_nil, or_false] at hc
    rcases hc with rfl | rfl | rfl | rfl | rfl
    · exact Nat.le_add_right _ _
    · exact Nat.le_add_right _ _
    · exact Nat.le_add_right _ _
    · exact Nat.le_refl _
    · exact Nat.le_add_right _ _
  have := I1.fpOk (H' := H1) hle (I1.hok.fresh hle)
  exact this
theorem walk_zipM {k1 k2 : SK} {K : PySem.W.Frag} {a b : Addr} {xs ys : List V} {n : Nat} (hn : n = min xs.length ys.length) :
    Walk (ItzK k1 k2 K a b) n (fun H => SqK k1 K H a xs ∧ SqK k2 K H b ys) (YPair (fun i => xs[i]?) (fun i => ys[i]?)) := by
  subst hn
  refine ⟨fun i _ hi q => ?_, fun _ q => ⟨xs, ys, q.1, q.2, by omega, by omega, by omega⟩, fun i H v H' _ q y => ?_⟩
  · have h1 : i < xs.length := by omega
    have h2 : i < ys.length := by omega
    exact ⟨xs, ys, xs[i], ys[i], q.1, q.2, by simp [h1], by simp [h2]⟩
  · obtain ⟨T, x, z, h1, h2, h3, h4, h5⟩ := y
    exact ⟨T, x, z, h1, h2, h3, h4 xs q.1, h5 ys q.2⟩
/-! ### xs.extend(t), t a list or a tuple -/
section
variable {prog : Program} {w : World} {A : Around} {E : Value → Shared → Prop} {s : Shared}
theorem call_extend_seq {k : SK} {l b : Addr} {its its2 : Array Value} {n : Nat} {Q : Value → Shared → Prop} (hl : s.heap.get? l = some { cls := .type "list", data := .seq its n }) (hb : HasK k s.heap b its2) (hz : its.size + its2.size ≤ sizeLine)
    (h : Q .none { s with heap := s.heap.update l (Obj.mapSeq (· ++ its2)) }) : wpAny (model prog w) A (call (.builtin "list.extend") [.ref l, .ref b]) Q E s := by
  have hT : s.TypeIs (.ref l) "list" := ⟨_, hl, rfl⟩
  have hlong : Builtin.List.listTooLong (its.size + its2.size) = false := notLongL hz
  obtain ⟨ob, T, hob, hcb, hTT, nb, hdb⟩ : ∃ (ob : Obj) (T : String), s.heap.get? b = some ob ∧ ob.cls = .type T ∧ (T = "list" ∨ T = "tuple") ∧ ∃ nb, ob.data = .seq its2 nb := by
    cases k with
    | L => obtain ⟨o, e1, e2, n2, e3⟩ := hb; exact ⟨o, "list", e1, e2, .inl rfl, n2, e3⟩
    | T => obtain ⟨o, e1, e2, n2, e3⟩ := hb; exact ⟨o, "tuple", e1, e2, .inr rfl, n2, e3⟩
  refine wpAny_call_entry F.slot_list_extend hT F.entry_list_extend ?_ (F.args_list_extend_2 _ _)
  show wpAny _ _ (Builtin.List.listExtendWith (.ref l) (.ref b) .none) _ _ s
  unfold Builtin.List.listExtendWith
  refine wpAny_bind (wpAny_typeOf (T := T) ⟨ob, hob, hcb⟩ ?_)
  have hc : (Builtin.List.listSameRef (.ref l) (.ref b) || Value.type T == Value.type "list" || Value.type T == Value.type "tuple") = true := by
    rcases hTT with rfl | rfl
    · simp
    · simp
  rw [if_pos hc]
  refine wpAny_bind (wpAny_listItems hob hdb ?_)
  refine wpAny_bind (wpAny_listItems hl rfl ?_)
  rw [hlong, Bool.and_false]
  refine wpAny_bind ?_
  show wpAny _ _ (updateSeq l (· ++ its2)) _ _ _
  refine wpAny_updateSeq hl rfl (wpAny_pure ⟨_, rfl, h⟩) (by omega) (by rw [Array.size_append]; omega)
end
section
variable {X : Cx}
def rExtK (k : SK) (K : PySem.W.Frag) : V → List V → Hp → VK → Prop := fun x vs H Q => ∃ l b xs zs, x = .ref l ∧ vs = [.ref b] ∧ H l = some (.lst xs) ∧ SqK k K H b zs ∧ xs.length + zs.length ≤ sizeLine ∧ Q .non (upd H l (.lst (xs ++ zs)))
theorem mt_extK (k : SK) {K : PySem.W.Frag} (hK : X.K = K := by rfl) : MtR X "list.extend" (rExtK k K) := by
  subst hK
  intro pins s σ H x vs v us Q I rx rv h
  obtain ⟨l, b, xs, zs, rfl, rfl, hH, hB, hz, q⟩ := h
  cases rx
  obtain ⟨u, rfl, ru⟩ := rv.one
  cases ru
  obtain ⟨z, its, n, r, hl, e⟩ := I.lstM hH
  obtain ⟨its2, r2, h2, _⟩ := InvK I hB
  have l2 := r2.length
  refine call_extend_seq e h2 (by rw [List.size_toArray, List.size_toArray]; omega) ?_
  refine ⟨.non, _, I.lset (its' := its ++ its2) hH e (by simp) (r.append r2) ?_, rfl, q⟩
  rw [List.length_append]
  omega
end
end CB

set_option Elab.async false
set_option linter.all false
set_option maxRecDepth 100000
set_option maxHeartbeats 2000000
namespace CB
open PySem PySem.Spec PyProof.Rows L2

abbrev Ex := Evl.Ex
/-! ### what is frozen (F) within what stands (H) -/
structure Gr (S : Addr → Prop) (F H F' H' : Hp) : Prop where
  fz : Ex F F'
  sub : Ex F' H'
  kp : ∀ a o, ¬ S a → H a = some o → H' a = some o
  al : ∀ a, H a ≠ none → H' a ≠ none
  nf : ∀ a, F a = none → H a ≠ none → F' a = none
abbrev NoS : Addr → Prop := fun _ => False
abbrev DL (d l : Addr) : Addr → Prop := fun a => a = d ∨ a = l
section
variable {S : Addr → Prop} {F H F1 H1 F2 H2 : Hp} {p : Addr} {o x : HO}
theorem Gr.refl (h : Ex F H) : Gr S F H F H := ⟨fun _ _ e => e, h, fun _ _ _ e => e, fun _ e => e, fun _ e _ => e⟩
theorem Gr.trans (g : Gr S F H F1 H1) (k : Gr S F1 H1 F2 H2) : Gr S F H F2 H2 :=
  ⟨g.fz.trans k.fz, k.sub, fun a o n e => k.kp a o n (g.kp a o n e), fun a e => k.al a (g.al a e), fun a e n => k.nf a (g.nf a e n) (g.al a n)⟩
theorem Gr.mono {S' : Addr → Prop} (g : Gr S F H F1 H1) (h : ∀ a, S a → S' a) : Gr S' F H F1 H1 :=
  ⟨g.fz, g.sub, fun a o n e => g.kp a o (fun z => n (h a z)) e, g.al, g.nf⟩
theorem Gr.pure (g : Gr NoS F H F1 H1) : Gr S F H F1 H1 := g.mono fun _ h => h.elim
theorem Gr.ex (g : Gr NoS F H F1 H1) : Ex H H1 := fun a o e => g.kp a o (fun h => h) e
theorem sub_none (h : Ex F H) (e : H p = none) : F p = none := Evl.fresh_back h e
/-- a new object, frozen at once -/
theorem Gr.new (g : Gr S F H F1 H1) (hp : H1 p = none) : Gr S F H (upd F1 p o) (upd H1 p o) := by
  have hf : F1 p = none := sub_none g.sub hp
  refine ⟨g.fz.trans (Evl.Ex.new hf), fun a u e => ?_, fun a u n e => ?_, fun a e => ?_, fun a e n => ?_⟩
  · by_cases h : a = p
    · subst h; rw [upd_same] at e ⊢; exact e
    · rw [upd_ne h] at e ⊢; exact g.sub a u e
  · have := g.kp a u n e
    rw [upd_ne (ne_of_none this hp)]; exact this
  · have := g.al a e
    by_cases h : a = p
    · subst h; exact absurd hp this
    · rw [upd_ne h]; exact this
  · have h : a ≠ p := fun h => g.al a n (h ▸ hp)
    rw [upd_ne h]; exact g.nf a e n
/-- a new object that may still change -/
theorem Gr.newm (g : Gr S F H F1 H1) (hp : H1 p = none) : Gr S F H F1 (upd H1 p o) := by
  refine ⟨g.fz, fun a u e => ?_, fun a u n e => ?_, fun a e => ?_, g.nf⟩
  · have := g.sub a u e
    rw [upd_ne (ne_of_none this hp)]; exact this
  · have := g.kp a u n e
    rw [upd_ne (ne_of_none this hp)]; exact this
  · have := g.al a e
    by_cases h : a = p
    · subst h; exact absurd hp this
    · rw [upd_ne h]; exact this
/-- an object of ours (new since the start, not frozen) changes -/
theorem Gr.mut (g : Gr S F H F1 H1) (hp : H p = none) (hf : F1 p = none) : Gr S F H F1 (upd H1 p o) := by
  refine ⟨g.fz, fun a u e => ?_, fun a u n e => ?_, fun a e => ?_, g.nf⟩
  · rw [upd_ne (ne_of_none e hf)]; exact g.sub a u e
  · rw [upd_ne (ne_of_none e hp)]; exact g.kp a u n e
  · by_cases h : a = p
    · subst h; rw [upd_same]; exact fun z => by cases z
    · rw [upd_ne h]; exact g.al a e
/-- an object of ours is frozen -/
theorem Gr.freeze (g : Gr S F H F1 H1) (hp : H p = none) (hf : F1 p = none) (ho : H1 p = some o) : Gr S F H (upd F1 p o) H1 := by
  refine ⟨g.fz.trans (Evl.Ex.new hf), fun a u e => ?_, g.kp, g.al, fun a e n => ?_⟩
  · by_cases h : a = p
    · subst h; rw [upd_same] at e; cases e; exact ho
    · rw [upd_ne h] at e; exact g.sub a u e
  · have h : a ≠ p := fun h => n (h ▸ hp)
    rw [upd_ne h]; exact g.nf a e n
/-- what is not frozen and stands stays so -/
theorem Gr.keepm (g : Gr S F H F1 H1) (hs : ¬ S p) (hf : F p = none) (ho : H p = some o) : F1 p = none ∧ H1 p = some o :=
  ⟨g.nf p hf (by rw [ho]; exact fun z => by cases z), g.kp p o hs ho⟩
theorem Gr.none (g : Gr S F H F1 H1) (h : H1 p = none) : H p = none := by
  cases e : H p with
  | none => rfl
  | some o => exact absurd h (g.al p (by rw [e]; exact fun z => by cases z))
theorem Gr.exs (g : Gr S F H F1 H1) : Ex F H1 := g.fz.trans g.sub
end
end CB
namespace L2
open PySem PySem.Spec PyProof.Rows CB
section
variable {K : PySem.W.Frag} {F F' H : Hp} {a : Addr} {xs : List V}
theorem ex_L (e : Ex F F') (h : SqL K F a xs) : SqL K F' a xs := Evl.ex_l e h
theorem ex_T (e : Ex F F') (h : SqT K F a xs) : SqT K F' a xs := Evl.ex_t e h
mutual
theorem Dp.ex (e : Ex F F') : ∀ {v : V} {d : PyData}, Dp K F v d → Dp K F' v d
  | _, _, .non => .non
  | _, _, .bl b => .bl b
  | _, _, .int i => .int i
  | _, _, .str x => .str x
  | _, _, .lst h hs => .lst (ex_L e h) (DpAll.ex e hs)
  | _, _, .tup h hs => .tup (ex_T e h) (DpAll.ex e hs)
theorem DpAll.ex (e : Ex F F') : ∀ {vs : List V} {ds : List PyData}, DpAll K F vs ds → DpAll K F' vs ds
  | _, _, .nil => .nil
  | _, _, .cons h hs => .cons (Dp.ex e h) (DpAll.ex e hs)
end
theorem DpAll.length : ∀ {vs : List V} {ds : List PyData}, DpAll K F vs ds → vs.length = ds.length
  | _, _, .nil => rfl
  | _, _, .cons _ h => by rw [List.length_cons, List.length_cons, DpAll.length h]
theorem DpAll.get : ∀ {vs : List V} {ds : List PyData} {i : Nat} {v : V}, DpAll K F vs ds → vs[i]? = some v → ∃ d, ds[i]? = some d ∧ Dp K F v d
  | _, _, _, _, .nil, e => by simp at e
  | _, _, 0, _, .cons h _, e => by simp at e; subst e; exact ⟨_, rfl, h⟩
  | _, _, i + 1, _, .cons _ h, e => by
    obtain ⟨d, e1, e2⟩ := DpAll.get (i := i) h (by simpa using e)
    exact ⟨d, by simpa using e1, e2⟩
theorem DpAll.get' : ∀ {vs : List V} {ds : List PyData} {i : Nat} {d : PyData}, DpAll K F vs ds → ds[i]? = some d → ∃ v, vs[i]? = some v ∧ Dp K F v d
  | _, _, _, _, .nil, e => by simp at e
  | _, _, 0, _, .cons h _, e => by simp at e; subst e; exact ⟨_, rfl, h⟩
  | _, _, i + 1, _, .cons _ h, e => by
    obtain ⟨d, e1, e2⟩ := DpAll.get' (i := i) h (by simpa using e)
    exact ⟨d, by simpa using e1, e2⟩
theorem DpAll.append : ∀ {vs ws : List V} {ds es : List PyData}, DpAll K F vs ds → DpAll K F ws es → DpAll K F (vs ++ ws) (ds ++ es)
  | _, _, _, _, .nil, h => h
  | _, _, _, _, .cons h hs, k => .cons h (DpAll.append hs k)
theorem DpAll.snoc {vs : List V} {v : V} {ds : List PyData} {d : PyData} (h : DpAll K F vs ds) (k : Dp K F v d) : DpAll K F (vs ++ [v]) (ds ++ [d]) := h.append (.cons k .nil)
theorem DpAll.ints : ∀ ns : List Int, DpAll K F (ns.map V.int) (ns.map PyData.int)
  | [] => .nil
  | n :: r => .cons (.int n) (DpAll.ints r)
theorem DpAll.strs : ∀ ns : List Str, DpAll K F (ns.map V.str) (ns.map PyData.str)
  | [] => .nil
  | n :: r => .cons (.str n) (DpAll.strs r)
theorem ints_of : ∀ {vs : List V} {ns : List Int}, DpAll K F vs (ns.map PyData.int) → vs = ns.map V.int
  | _, [], h => by cases h; rfl
  | _, n :: r, h => by
    cases h with
    | cons h1 h2 => cases h1; rw [ints_of h2]; rfl
end
/-- tuples of ints, tuples of those -/
abbrev ti (ns : List Int) : PyData := .tuple (ns.map PyData.int)
abbrev li (ns : List Int) : PyData := .list (ns.map PyData.int)
abbrev tti (r : List (List Int)) : PyData := .tuple (r.map ti)
abbrev lti (r : List (List Int)) : PyData := .list (r.map ti)
section
variable {K : PySem.W.Frag} {F F' H : Hp} {v : V}
theorem Dp.tup_inv {ds : List PyData} (h : Dp K F v (.tuple ds)) : ∃ a xs, v = .ref a ∧ SqT K F a xs ∧ DpAll K F xs ds := by
  cases h with
  | tup h1 h2 => exact ⟨_, _, rfl, h1, h2⟩
theorem Dp.lst_inv {ds : List PyData} (h : Dp K F v (.list ds)) : ∃ a xs, v = .ref a ∧ SqL K F a xs ∧ DpAll K F xs ds := by
  cases h with
  | lst h1 h2 => exact ⟨_, _, rfl, h1, h2⟩
theorem Dp.ti_inv {ns : List Int} (h : Dp K F v (ti ns)) : ∃ a, v = .ref a ∧ SqT K F a (ns.map V.int) := by
  obtain ⟨a, xs, e, h1, h2⟩ := h.tup_inv
  rw [ints_of h2] at h1
  exact ⟨a, e, h1⟩
theorem Dp.li_inv {ns : List Int} (h : Dp K F v (li ns)) : ∃ a, v = .ref a ∧ SqL K F a (ns.map V.int) := by
  obtain ⟨a, xs, e, h1, h2⟩ := h.lst_inv
  rw [ints_of h2] at h1
  exact ⟨a, e, h1⟩
theorem Dp.of_ti {a : Addr} {ns : List Int} (h : SqT K F a (ns.map V.int)) : Dp K F (.ref a) (ti ns) := .tup h (DpAll.ints ns)
theorem Dp.of_li {a : Addr} {ns : List Int} (h : SqL K F a (ns.map V.int)) : Dp K F (.ref a) (li ns) := .lst h (DpAll.ints ns)
theorem Dp.int_inv {i : Int} (h : Dp K F v (.int i)) : v = .int i := by cases h; rfl
theorem Dp.str_inv {i : Str} (h : Dp K F v (.str i)) : v = .str i := by cases h; rfl
end

end L2
namespace CB
open PySem PySem.Spec PyProof.Rows L2
/-! ### data that may be compared -/
theorem canLay_strs : ∀ l : List Str, (∀ x ∈ l, PyData.strOk x = true) → PyData.canLayAll0 (l.map PyData.str) = true
  | [], _ => rfl
  | x :: r, h => by
    show (PyData.strOk x && PyData.canLayAll0 (r.map PyData.str)) = true
    rw [h x List.mem_cons_self, canLay_strs r fun y hy => h y (List.mem_cons_of_mem _ hy)]
    rfl
theorem canLay_ints : ∀ l : List Int, PyData.canLayAll0 (l.map PyData.int) = true
  | [] => rfl
  | x :: r => by
    show (true && PyData.canLayAll0 (r.map PyData.int)) = true
    rw [canLay_ints r]
    rfl
theorem depth_strs : ∀ l : List Str, PyData.depthAll (l.map PyData.str) = 0
  | [] => rfl
  | x :: r => by
    show max 0 (PyData.depthAll (r.map PyData.str)) = 0
    rw [depth_strs r]
    rfl
theorem shaped_strs (l : List Str) (h : ∀ x ∈ l, PyData.strOk x = true) : SeqAt.shaped (.list (l.map PyData.str)) = true := by
  unfold SeqAt.shaped
  rw [Bool.and_eq_true, decide_eq_true_eq]
  refine ⟨canLay_strs l h, ?_⟩
  show PyData.depthAll (l.map PyData.str) + 1 ≤ 64
  rw [depth_strs]
  decide
/-! ### the drawing of numbers -/
abbrev kSeed : Key := Sum.inr "seed"
abbrev kNumber : Key := Sum.inr "number"
abbrev kLeft : Key := Sum.inr "left"
def dealD (s n : Int) (l : Addr) : List (Key × V) := [(kSeed, .int s), (kNumber, .int n), (kLeft, .ref l)]
theorem deal_seed {s n : Int} {l : Addr} : valV (dealD s n l) kSeed = some (.int s) := by
  exact valV_pos rfl
structure Deal (H : Hp) (d l : Addr) (s n : Int) (ls : List Int) : Prop where
  hd : H d = some (.dK (dealD s n l))
  hl : H l = some (.lst (ls.map V.int))
  s0 : 0 ≤ s
  s1 : s < 2147483648
  n0 : 0 ≤ n
  pos : ∀ x ∈ ls, 0 < x
  len : ls.length ≤ 63
def IsDeal (H : Hp) (d l : Addr) : Prop := ∃ s n ls, Deal H d l s n ls
theorem Deal.ne {H : Hp} {d l : Addr} {s n : Int} {ls : List Int} (h : Deal H d l s n ls) : d ≠ l := ne_of h.hd h.hl (by intro z; cases z)
theorem IsDeal.keep {H H' : Hp} {d l : Addr} (h : IsDeal H d l) (k : ∀ o, H d = some o → H' d = some o) (k2 : ∀ o, H l = some o → H' l = some o) : IsDeal H' d l := by
  obtain ⟨s, n, ls, h⟩ := h
  exact ⟨s, n, ls, k _ h.hd, k2 _ h.hl, h.s0, h.s1, h.n0, h.pos, h.len⟩
theorem ne_sn : ¬ kSeed = kNumber := by decide +kernel
theorem ne_sl : ¬ kSeed = kLeft := by decide +kernel
theorem ne_nl : ¬ kNumber = kLeft := by decide +kernel
theorem deal_number {s n : Int} {l : Addr} : valV (dealD s n l) kNumber = some (.int n) := by
  unfold dealD
  rw [valV_neg ne_sn, valV_pos rfl]
theorem deal_left {s n : Int} {l : Addr} : valV (dealD s n l) kLeft = some (.ref l) := by
  unfold dealD
  rw [valV_neg ne_sl, valV_neg ne_nl, valV_pos rfl]
theorem put_number {s n m : Int} {l : Addr} : putK (dealD s n l) kNumber (.int m) = dealD s m l := by
  unfold putK dealD
  rw [if_pos (by rw [List.any_cons, List.any_cons, decide_eq_true rfl]; simp)]
  simp only [List.map_cons, List.map_nil, if_neg ne_sn, if_true, if_neg (fun h => ne_nl (Eq.symm h))]
theorem put_seed {s n m : Int} {l : Addr} : putK (dealD s n l) kSeed (.int m) = dealD m n l := by
  unfold putK dealD
  rw [if_pos (by rw [List.any_cons, decide_eq_true rfl]; simp)]
  simp only [List.map_cons, List.map_nil, if_true, if_neg (fun h => ne_sn (Eq.symm h)), if_neg (fun h => ne_sl (Eq.symm h))]
theorem merge_deal {s n : Int} {l : Addr} : mergeK [] (dealD s n l) = dealD s n l := by
  have a1 : ([] : List (Key × V)).any (fun kv => decide (kv.1 = kSeed)) = false := rfl
  have a2 : ([(kSeed, V.int s)] : List (Key × V)).any (fun kv => decide (kv.1 = kNumber)) = false := by simp only [List.any_cons, List.any_nil, decide_eq_false ne_sn, Bool.or_false]
  have a3 : ([(kSeed, V.int s), (kNumber, V.int n)] : List (Key × V)).any (fun kv => decide (kv.1 = kLeft)) = false := by simp only [List.any_cons, List.any_nil, decide_eq_false ne_sl, decide_eq_false ne_nl, Bool.or_false]
  have e1 : putK ([] : List (Key × V)) kSeed (.int s) = [(kSeed, .int s)] := by unfold putK; rw [a1]; rfl
  have e2 : putK [(kSeed, V.int s)] kNumber (.int n) = [(kSeed, .int s), (kNumber, .int n)] := by unfold putK; rw [a2]; rfl
  have e3 : putK [(kSeed, V.int s), (kNumber, V.int n)] kLeft (.ref l) = dealD s n l := by unfold putK; rw [a3]; rfl
  show putK (putK (putK [] kSeed (.int s)) kNumber (.int n)) kLeft (.ref l) = _
  rw [e1, e2, e3]
section
variable {H : Hp} {d l : Addr} {s n : Int} {ls : List Int}
theorem Deal.g_seed (h : Deal H d l s n ls) : DGet H d (.str "seed") (some (.int s)) := by
  have e := DGet.k (k := kSeed) h.hd
  rw [deal_seed] at e
  exact e
theorem Deal.g_number (h : Deal H d l s n ls) : DGet H d (.str "number") (some (.int n)) := by
  have e := DGet.k (k := kNumber) h.hd
  rw [deal_number] at e
  exact e
theorem Deal.g_left (h : Deal H d l s n ls) : DGet H d (.str "left") (some (.ref l)) := by
  have e := DGet.k (k := kLeft) h.hd
  rw [deal_left] at e
  exact e
theorem Deal.p_number (h : Deal H d l s n ls) (m : Int) : DPut H d (.str "number") (.int m) (upd H d (.dK (dealD s m l))) := by
  have e := DPut.k (k := kNumber) (v := .int m) h.hd (by show 3 < sizeLine; decide)
  rw [put_number] at e
  exact e
theorem Deal.p_seed (h : Deal H d l s n ls) (m : Int) : DPut H d (.str "seed") (.int m) (upd H d (.dK (dealD m n l))) := by
  have e := DPut.k (k := kSeed) (v := .int m) h.hd (by show 3 < sizeLine; decide)
  rw [put_seed] at e
  exact e
theorem Deal.pop (h : Deal H d l s n ls) (hn : ls ≠ []) : Deal (upd H l (.lst (ls.map V.int).dropLast)) d l s n ls.dropLast :=
  ⟨by rw [upd_ne h.ne]; exact h.hd, by rw [upd_same, List.map_dropLast], h.s0, h.s1, h.n0, fun x hx => h.pos x (List.dropLast_subset _ hx), by have := h.len; rw [List.length_dropLast]; omega⟩
theorem Deal.last (h : Deal H d l s n ls) (hn : ls ≠ []) : ∃ y, 0 < y ∧ (ls.map V.int)[(ls.map V.int).length - 1]? = some (.int y) := by
  refine ⟨ls.getLast hn, h.pos _ (List.getLast_mem hn), ?_⟩
  rw [List.length_map, List.getElem?_map, ← List.getLast?_eq_getElem?, List.getLast?_eq_some_getLast hn]
  rfl
theorem Deal.with_number (h : Deal H d l s n ls) {m : Int} (m0 : 0 ≤ m) : Deal (upd H d (.dK (dealD s m l))) d l s m ls :=
  ⟨upd_same, by rw [upd_ne h.ne.symm]; exact h.hl, h.s0, h.s1, m0, h.pos, h.len⟩
theorem Deal.with_seed (h : Deal H d l s n ls) {m : Int} (m0 : 0 ≤ m) (m1 : m < 2147483648) : Deal (upd H d (.dK (dealD m n l))) d l m n ls :=
  ⟨upd_same, by rw [upd_ne h.ne.symm]; exact h.hl, m0, m1, h.n0, h.pos, h.len⟩
end
theorem fmod_in (x k : Int) (hk : 0 < k) : 0 ≤ x.fmod k ∧ x.fmod k < k := by
  rw [Int.fmod_eq_emod_of_nonneg x (by omega)]
  exact ⟨Int.emod_nonneg _ (by omega), Int.emod_lt_of_pos _ hk⟩
theorem cut_ints (ns : List Int) (lo hi : Option Int) : ∃ ms : List Int, cutV (ns.map V.int) lo hi = ms.map V.int ∧ ms.length ≤ ns.length :=
  ⟨(ns.drop (HT.sIx ns.length 0 lo)).take (HT.sIx ns.length ns.length hi - HT.sIx ns.length 0 lo), by
    unfold cutV
    rw [List.length_map, ← List.map_drop, ← List.map_take], by
    rw [List.length_take, List.length_drop]
    omega⟩
/-- what stands beside the deal stays -/
def Kp (d l : Addr) (H H' : Hp) : Prop := ∀ b o, b ≠ d → b ≠ l → H b = some o → H' b = some o
section
variable {d l p : Addr} {H H1 H2 : Hp} {o : HO}
theorem Kp.refl : Kp d l H H := fun _ _ _ _ e => e
theorem Kp.trans (a : Kp d l H H1) (b : Kp d l H1 H2) : Kp d l H H2 := fun x o h1 h2 e => b x o h1 h2 (a x o h1 h2 e)
theorem Kp.of_ex (a : Ex H H1) : Kp d l H H1 := fun x o _ _ e => a x o e
theorem Kp.of_draw (a : ∀ b, b ≠ d → b ≠ l → H1 b = H b) : Kp d l H H1 := fun x o h1 h2 e => (a x h1 h2).trans e
theorem Kp.mut (a : Kp d l H H1) (h : H p = none) : Kp d l H (upd H1 p o) := fun x u h1 h2 e => by
  rw [upd_ne (ne_of_none e h)]
  exact a x u h1 h2 e
theorem IsDeal.ex (h : IsDeal H d l) (e : Ex H H1) : IsDeal H1 d l := h.keep (fun o => e d o) (fun o => e l o)
theorem IsDeal.upd (h : IsDeal H d l) (hd : p ≠ d) (hl : p ≠ l) : IsDeal (L2.upd H p o) d l := h.keep (fun o e => by rw [upd_ne hd.symm]; exact e) (fun o e => by rw [upd_ne hl.symm]; exact e)
theorem IsDeal.nd (h : IsDeal H d l) (e : H p = none) : p ≠ d ∧ p ≠ l := by
  obtain ⟨s, n, ls, h⟩ := h
  exact ⟨(ne_of_none h.hd e).symm, (ne_of_none h.hl e).symm⟩
/-- an object other than the deal's two -/
theorem IsDeal.ne_str (h : IsDeal H d l) {y : Str} {ys : List V} (e : H p = some (.lst (.str y :: ys))) : p ≠ d ∧ p ≠ l := by
  obtain ⟨s, n, ls, h⟩ := h
  refine ⟨fun z => ?_, fun z => ?_⟩
  · rw [z, h.hd] at e; cases e
  · rw [z, h.hl] at e
    cases ls with
    | nil => cases e
    | cons a r => cases e
end
theorem at_in {xs : List V} {r : Int} (h0 : 0 ≤ r) (h1 : r < xs.length) : ∃ v, atI xs r = some v ∧ v ∈ xs := by
  have h2 : r.toNat < xs.length := by omega
  have e : xs[r.toNat]? = some xs[r.toNat] := List.getElem?_eq_getElem h2
  have e2 := atI_nat e
  rw [Int.toNat_of_nonneg h0] at e2
  exact ⟨_, e2, List.getElem_mem h2⟩
theorem at_inA {xs : List Nat} {r : Int} (h0 : 0 ≤ r) (h1 : r < xs.length) : ∃ v, atI xs r = some v ∧ v ∈ xs := by
  have h2 : r.toNat < xs.length := by omega
  have e : xs[r.toNat]? = some xs[r.toNat] := List.getElem?_eq_getElem h2
  have e2 := atI_nat e
  rw [Int.toNat_of_nonneg h0] at e2
  exact ⟨_, e2, List.getElem_mem h2⟩
theorem cut_strs (ns : List Str) (lo hi : Option Int) : ∃ ms : List Str, cutV (ns.map V.str) lo hi = ms.map V.str ∧ ms.length ≤ ns.length ∧ ∀ y ∈ ms, y ∈ ns :=
  ⟨(ns.drop (HT.sIx ns.length 0 lo)).take (HT.sIx ns.length ns.length hi - HT.sIx ns.length 0 lo), by
    unfold cutV
    rw [List.length_map, ← List.map_drop, ← List.map_take], by
    rw [List.length_take, List.length_drop]
    omega, fun y h => List.mem_of_mem_drop (List.mem_of_mem_take h)⟩
/-- the promise of the deal that is made of the script -/
def sp_deal (K : PySem.W.Frag) : Sp := fun vs H Q _ => ∃ (a : Addr) (ns : List Int) (b : Int), vs = [.ref a, .int b] ∧ SqL K H a (ns.map V.int) ∧ ns.length ≤ 63 ∧ 0 ≤ b ∧ b ≤ 63 ∧
  ∀ (d l : Addr) (H' : Hp), Ex H H' → H d = none → H l = none → IsDeal H' d l → Q (.ref d) H'
/-- the promise of a draw: some number below many -/
def sp_draw : Sp := fun vs H Q _ => ∃ (d l : Addr) (m : Int), vs = [.ref d, .int m] ∧ IsDeal H d l ∧ 0 < m ∧ m < 1073741824 ∧
  ∀ (r : Int) (H' : Hp), 0 ≤ r → r < m → IsDeal H' d l → Kp d l H H' → Q (.int r) H'
end CB

set_option Elab.async false
set_option linter.all false
set_option maxRecDepth 100000
set_option maxHeartbeats 2000000
namespace CB
open PySem PySem.Spec PyProof.Rows L2

/-! ### defs that are promised where no repr is under way (A.guards = some []) -/
structure FnG (P : Program) (w : World) (K : PySem.W.Frag) (mg : Str → Option Value) (base : Heap) (k : Nat) (f : Addr) (fd : FuncData) (ps : List Str) (sp : Sp) : Prop where
  len : ∀ vs H Q E, sp vs H Q E → vs.length = ps.length
  run : ∀ (A : Around) (outer : List Env) (s : Shared) (H : Hp) (args : Args) (us : List Value) (vs : List V) (Q : VK) (E : XK), A.guards = some [] → Room k A → Env0 P w K mg base A outer s H →
    BindsTo s fd args (ps.zip us) → Vals vs us → sp vs H Q E → codeAny (model P w) A (.call (.ref f) args) (CR CX0 outer P w H s Q E) s
section
variable {P : Program} {w : World} {K : PySem.W.Frag} {mg : Str → Option Value} {base : Heap}
theorem okG {x qual : Str} {st : Stmt} {f : Addr} {fd : FuncData} {N ps : List Str} {k : Nat} {sp : Sp} (F : Fun K x qual st f fd) (S : FnScope N ps (defScope st)) (len : ∀ vs H Q E, sp vs H Q E → vs.length = ps.length)
    (hbody : ∀ (cdv : Value) (A : Around) (outer : List Env) (s : Shared) (H : Hp) (vs : List V) (Q : VK) (E : XK), (A.deeper (envOfC qual (defScope st) s.heap.objs.size f cdv)).guards = some [] → Room k (A.deeper (envOfC qual (defScope st) s.heap.objs.size f cdv)) → sp vs H Q E →
      ∃ t, PSs (cxOf CX0 P w K mg base N qual (defScope st) f cdv A outer s H E).nox (defBody st) t ∧ t { nx := fun _ H' => Q .non H', rt := Q } (start N vs) H) : FnG P w K mg base (k + 1) f fd ps sp := by
  obtain ⟨oc, od, kV, doc, pm, an, cdv, ct, osl, rfl, lk, hcd⟩ := F.ex
  refine ⟨len, fun A outer s H args us vs Q E hg hr e0 hb r hsp => ?_⟩
  have keepBase : ∀ b o, base.get? b = some o → s.heap.get? b = some o := fun b o e => (e0.bs b o e).1
  have hkinds : ∀ y ∈ ps.zip us, (defScope st).names.lookup y.1 = some .local ∨ ((defScope st).names.lookup y.1 = some .cell ∧ ((cellsFrom (s.heap.objs.size + 1) (defScope st).names []).lookup y.1).isSome = true) := by
    rintro ⟨n, v⟩ hy
    exact (S.par n (List.of_mem_zip hy).1).elim .inl fun q => .inr ⟨q, PySem.W.cellsFrom_some _ _ _ (.inl q)⟩
  have KX := e0.mod.kin.keeps keepBase
  refine codeAny_call_function hr.depth (KX _ _ lk) rfl S.co S.gen rfl (PySem.W.codeRec_of KX hcd) (hb _ _ _ _ (wpAny_newFunctionEnv_cells S.kind hkinds ?_))
  rintro env rfl s1 x
  obtain ⟨t, ht, hq⟩ := hbody cdv A outer s H vs Q E hg (hr.deeper _) hsp
  have I0 := inv_start (CX := CX0) (E := E) S hr.hd e0 (len _ _ _ _ hsp) r x
  refine ⟨(e0.mod.nolimit.keeps keepBase).keeps x.toInCall.keep, codeAny_func (wpAny_mono (ht.nox.run [] s1 (start N vs) H _ I0 hq) (fun fl s' hs => ?_) fun e s' hs => hs)⟩
  cases fl with
  | ret u =>
    obtain ⟨v, σ', H', J, rv, q⟩ := hs
    exact ⟨v, H', J.os, J.bare, J.base, J.hok, rv, q⟩
  | next =>
    obtain ⟨σ', H', J, q⟩ := hs
    exact ⟨V.non, H', J.os, J.bare, J.base, J.hok, rfl, q⟩
  | brk => exact hs.elim fun _ h => h.elim fun _ h => (show False from h.2).elim
  | cont => exact hs.elim fun _ h => h.elim fun _ h => (show False from h.2).elim
end
section
variable {X : Cx} {k : Nat} {f : Addr} {fd : FuncData} {ps : List Str} {sp : Sp} {x : Str} {p pos : Pos} {e : Expr} {es : List Expr} {t : TA} {E : XK}
theorem pe_callG (F : FnG X.prog X.w X.K X.mg X.base k f fd ps sp) (hgd : X.A.guards = some []) (hr : Room k X.A) (hg : Gl X x) (hm : X.mg x = some (.ref f)) (hk : PySem.W.keepIn X.K (.ref f) = true) (hb : Binds X.K fd ps [])
    (ha : PA X (e :: es) t) (hdb : (x == ("__debug__" : Str)) = false := by decide) (he : starEach (e :: es) X.env = (false, eval e X.env) :: starEach es X.env := by rfl) (hpl : (backTo pos (starEach es X.env)).any (·.1) = false := by rfl) :
    PE X (.Call (.Name x p) (e :: es) [] pos) (tCall sp [] E t) := by
  refine ⟨fun pins s σ H Q I h => wpAny_Call_Name_kw (ld_glob I hg hm (PySem.W.callWith_K (h₀ := X.base) I.ok.mod.kin hk (thn (ha.run pos pins s σ H _ I h) fun us s1 hus => ?_) he hpl) hdb)⟩
  obtain ⟨vs, H1, I1, r, q⟩ := hus
  refine ⟨I1.kIn, ?_⟩
  have r2 : Vals (vs ++ []) us := by rw [List.append_nil]; exact r
  have hl : (us ++ []).length = ps.length := by rw [List.append_nil, ← r2.length]; exact F.len _ _ _ _ q
  have bnd := hb s1 us I1.kIn hl
  rw [List.append_nil] at bnd
  refine wpAny_call (codeAny_mono (F.run X.A X.stack s1 H1 ⟨us, []⟩ us (vs ++ []) Q E hgd hr I1.env0 bnd r2 q) fun r s' hq => ?_)
  cases r with
  | error e => exact False.elim hq
  | ok fl =>
    cases fl with
    | ret u => exact I1.after hq
    | next => exact False.elim hq
    | brk => exact False.elim hq
    | cont => exact False.elim hq
end
/-! ### the law's own call, where no repr is under way -/
theorem lawG {P : Program} {w : World} {K : PySem.W.Frag} {mg mb : Str → Option Value} {k : Nat} {fa a : Addr} {fd : FuncData} {x : Str} {sp : Sp} {s1 : Shared} {vs : List Value} {ns : List Int}
    (KX : K.In s1.heap) (hns : s1.heap.Ns mainGlobals mg) (hb : s1.heap.Ns builtinsNs mb) (hbb : ∀ x : Str, x ≠ "__name__" → mb x = bootBuiltins x) (hlim : s1.heap.NoLimit) (hg : s1.gens = #[])
    (ha : s1.heap.get? a = some { cls := .type "list", data := .seq vs.toArray }) (hi : IntsAre vs ns) (hl : ns.length ≤ sizeLine) (hr : Room k callerA)
    (F : ∀ base : Heap, K.In base → base.Ns mainGlobals mg → FnG P w K mg base k fa fd [x] sp) (hbind : ∀ (s : Shared) (u : Value), BindsTo s fd ⟨[u], []⟩ [(x, u)])
    (hsp : ∀ H : Hp, SqL K H a (ns.map V.int) → sp [.ref a] H (fun v _ => v = .bl true) fun _ _ _ => False) :
    codeAny (model P w) callerA (.call (.ref fa) ⟨[.ref a], []⟩) (fun r s' => r = .ok (.ret (.bool true)) ∧ OldK s1.heap s'.heap ∧ s'.os = s1.os ∧ AllBare s'.gens) s1 := by
  have rel := vals_ints hi
  -- H tracks nothing, or the script alone, locked
  suffices go : ∀ H : Hp, (∀ b u, H b = some u → b = a ∧ K.lookup a = none ∧ ∃ o xs, u = .frz o (.lst xs)) → SqL K H a (ns.map V.int) → HOk P w H s1.heap →
      codeAny (model P w) callerA (.call (.ref fa) ⟨[.ref a], []⟩) (fun r s' => r = .ok (.ret (.bool true)) ∧ OldK s1.heap s'.heap ∧ s'.os = s1.os ∧ AllBare s'.gens) s1 by
    cases hk : K.lookup a with
    | none =>
      refine go (upd (fun _ => none) a (.frz { cls := .type "list", data := .seq vs.toArray } (.lst (ns.map V.int)))) (fun b u e => ?_) (.inl (.inr ⟨_, upd_same⟩)) (fun b u e => ?_)
      · by_cases h : b = a
        · subst h
          rw [upd_same] at e
          cases e
          exact ⟨rfl, hk, _, _, rfl⟩
        · rw [upd_ne h] at e
          cases e
      · by_cases h : b = a
        · subst h
          rw [upd_same] at e
          cases e
          exact ⟨ha, by rw [List.length_map]; exact hl, vs, _, rel, ha⟩
        · rw [upd_ne h] at e
          cases e
    | some o =>
      have e := KX a o hk
      rw [ha] at e
      cases e
      exact go (fun _ => none) (fun b u e => by cases e) (.inr ⟨_, vs.toArray, _, hk, rfl, rfl, rfl, by rw [List.size_toArray, hi.length]; exact hl, by simpa using rel⟩) (fun b u e => by cases e)
  intro H hH hS hok
  have apart : ∀ {b : Addr} {o : Obj}, s1.heap.get? b = some o → (∃ es ep, o.data = .dict es ep) → H b = none := fun {b o} e hd => by
    cases q : H b with
    | none => rfl
    | some u =>
      obtain ⟨rfl, _⟩ := hH b u q
      rw [ha] at e
      cases e
      obtain ⟨es, ep, z⟩ := hd
      cases z
  have ns_base : ∀ {b : Addr} {m : Str → Option Value}, s1.heap.Ns b m → (hidT s1.heap H).Ns b m := fun {b m} h => by
    obtain ⟨o, es, ep, e, d, r⟩ := h
    exact ⟨o, es, ep, hidT_get e (apart e ⟨es, ep, d⟩), d, r⟩
  have kin : K.In (hidT s1.heap H) := fun b o e => hidT_get (KX b o e) (by
    cases q : H b with
    | none => rfl
    | some u =>
      obtain ⟨rfl, h2, _⟩ := hH b u q
      rw [h2] at e
      cases e)
  have limit : (hidT s1.heap H).NoLimit := by
    obtain ⟨mc, h1, h2⟩ := hlim
    exact ⟨mc, ns_base h1, h2⟩
  have e0 : Env0 P w K mg (hidT s1.heap H) callerA [] s1 H :=
    ⟨rfl, ⟨kin, ns_base hns, ⟨mb, ns_base hb, hbb⟩, limit⟩, fun b o e => of_hidT e, Nat.le_of_eq (hidT_size _ _), trivial, fun b hb => (List.not_mem_nil hb).elim, hok, .of_eq hg⟩
  refine codeAny_mono ((F _ kin (ns_base hns)).run callerA [] s1 H ⟨[.ref a], []⟩ [.ref a] [.ref a] _ _ rfl hr e0 (hbind s1 (.ref a)) (.cons rfl .nil) (hsp H hS)) fun r s' h => ?_
  cases r with
  | error e => exact False.elim h
  | ok fl =>
    cases fl with
    | ret u =>
      obtain ⟨v, H', os, bare, un, hok', ru, rfl⟩ := h
      obtain rfl : u = Value.bool true := ru
      refine ⟨rfl, OldK.of_keep fun b o e => ?_, os, bare⟩
      cases q : H b with
      | none => exact un.keep b o e q (fun z => (List.not_mem_nil z).elim) (by simp)
      | some u =>
        obtain ⟨rfl, _, ob, xs, rfl⟩ := hH b u q
        have h1 := (hok b _ q).1
        rw [e] at h1
        cases h1
        exact (hok' b _ (un.frzs b _ _ q)).1
    | next => exact False.elim h
    | brk => exact False.elim h
    | cont => exact False.elim h
/-- the goal that k_head leaves, from the law's promise -/
theorem walkG {l : PySem.W.OpenLaw} {n k : Nat} {q : Program} {loose : List Str} {XP : (Str → Option Value) → Heap → Prop} {YP : World → Heap → Prop} {d : DefRec} {K : Params → PySem.W.Frag} {sp : World → Sp} {x : Str}
    (hn : l.most = some n) (hn2 : n ≤ sizeLine) (hdf : d.params.defaults = []) (hr : Room k callerA) (hY : ∀ (w : World) (h : Heap), YP w h → (K w.params).In h)
    (F : ∀ (w : World) (mg : Str → Option Value) (fa : Addr) (h : Heap), (K w.params).In h → h.Ns mainGlobals mg → mg d.name = some (.ref fa) →
      ∃ fd : FuncData, (∀ (s : Shared) (u : Value), BindsTo s fd ⟨[u], []⟩ [(x, u)]) ∧ ∀ base : Heap, (K w.params).In base → base.Ns mainGlobals mg → FnG l.prog w (K w.params) mg base k fa fd [x] (sp w))
    (hsp : ∀ (w : World) (H : Hp) (a : Addr) (ns : List Int), ns.length ≤ n → SqL (K w.params) H a (ns.map V.int) → sp w [.ref a] H (fun v _ => v = .bl true) fun _ _ _ => False) :
    PySem.W.WalkO q loose XP YP l.row.toRowW d [] (fun f vs => PySem.call f vs) :=
  Att.attach_call hn hdf fun w s0 s1 mg mb fa o pm cd doc a vs ns G Y ho hd hcd hmg hobj hints hlen hg => by
    have KX := hY w _ Y
    obtain ⟨fd, hb, hF⟩ := F w mg fa _ KX G.T.g hmg
    exact lawG KX G.T.g G.T.b G.T.builtins G.T.nolimit hg hobj hints (Nat.le_trans hlen hn2) hr hF hb fun H hS => hsp w H a ns hlen hS
/-! ### repr -/
section
variable {X : Cx}
/-- repr(x), x a list or a tuple: what is shown -/
theorem call_reprD {K : PySem.W.Frag} (hgd : X.A.guards = some []) (hu : X.A.units + 66 < cLine) (hK : X.K = K := by rfl) : CallR X (.builtin "repr") (fun xs H Q => ∃ v d, xs = [v] ∧ Dp K H v d ∧ (∃ a, v = .ref a) ∧ SeqAt.shaped d = true ∧ d.showable = true ∧ d.shown.length ≤ sizeLine ∧ Q (.str d.shown) H) := by
  subst hK
  intro pins s σ H xs us Q I r h
  obtain ⟨v, d, rfl, hd, ⟨a, rfl⟩, sd, sw, hz, q⟩ := h
  obtain ⟨u, rfl, ru⟩ := vals1 r
  obtain rfl : u = Value.ref a := ru
  obtain ⟨as, rd⟩ := Dp.reads I d _ _ hd rfl
  have dp := SeqAt.depth_of_shaped sd
  refine repr_of_reads' rd sw (PyData.noDict_hsm (PyData.hasDict_of_canLay d (SeqAt.canLay_of_shaped sd))) hgd (by omega) (fun _ _ e => e) (fun h' u tk hk => ?_) hz
  exact ⟨.str d.shown, H, I.kept (t' := tk) hk, ⟨u, rfl⟩, q⟩
/-! ### sum(a tuple of ints) -/
theorem cr_sumT {K : PySem.W.Frag} (hc : X.calm = true) (hK : X.K = K := by rfl) : CallR X (.builtin "sum") (fun vs H Q => ∃ (a : Addr) (ns : List Int), vs = [V.ref a] ∧ SqT K H a (ns.map V.int) ∧ Q (.int ns.sum) H) := by
  subst hK
  intro pins s σ H vs us Q I r h
  obtain ⟨a, ns, rfl, hs, q⟩ := h
  obtain ⟨its, rv, hl, _⟩ := I.tuple hs
  rw [Vals.ref1 r]
  have hi := rv.ints
  obtain ⟨xs, e⟩ := hi.allInts.items
  have hn : numsOf (intItems xs).toList = ns := by rw [← e]; exact hi.numsOf
  rw [nums_intItems] at hn
  rw [e] at hl
  have hT : s.heap.IsTuple a (intItems xs) := hl
  have hlt : a < s.heap.objs.size := by obtain ⟨_, e, _⟩ := hT; exact Heap.lt_size e
  refine call_sum_walkG (wpAny_pyIter_tuple hT ⟨_, [_, a], [_], _, _, _, numAt xs, rfl, Walks.tuple (A := X.A.in1) (I.ok.hd hc) _ a (Nat.ne_of_lt hlt) (intItems xs), ⟨⟨_, Heap.get?_push_size _ rfl, rfl, rfl⟩, hT.push _⟩, fun b hb => ?_, (fun _ _ => intItems_at), fun h' tk t' hk => ?_⟩)
  · show b < (s.heap.push _).objs.size
    rw [Heap.size_push]
    rcases List.mem_cons.mp hb with rfl | hb
    · exact Nat.lt_succ_self _
    · rw [List.mem_singleton.mp hb]
      exact Nat.lt_succ_of_lt hlt
  · have e2 : preSum (numAt xs) (intItems xs).size = ns.sum := by
      have e3 : (intItems xs).size = xs.size := by simp [intItems]
      rw [e3, preSum_eq, List.take_of_length_le (by simp), hn]
    rw [e2]
    refine ⟨.int _, H, I.kept (t' := tk) fun b o eb => hk b o (fun hm => ?_) (Heap.get?_push_of_some _ eb), ⟨_, rfl⟩, q⟩
    rw [List.mem_singleton.mp hm] at eb
    exact absurd (Heap.lt_size eb) (Nat.lt_irrefl _)
/-! ### sorted(a list of data) -/
abbrev dSort (ds : List PyData) : List PyData := ds.mergeSort (PySem.W.dataLe false id)
theorem DpAll.pairs {K : PySem.W.Frag} {H : Hp} : ∀ {xs : List V} {ds : List PyData}, DpAll K H xs ds → ∀ p ∈ xs.zip ds, Dp K H p.1 p.2
  | _, _, .nil, p, hp => by cases hp
  | _, _, .cons h hs, p, hp => by
    rcases List.mem_cons.mp hp with rfl | hp
    · exact h
    · exact DpAll.pairs hs p hp
theorem dpAll_of {K : PySem.W.Frag} {H : Hp} : ∀ (l : List (V × PyData)), (∀ p ∈ l, Dp K H p.1 p.2) → DpAll K H (l.map Prod.fst) (l.map Prod.snd)
  | [], _ => .nil
  | p :: r, h => .cons (h p List.mem_cons_self) (dpAll_of r fun q hq => h q (List.mem_cons_of_mem _ hq))
theorem each_zip {H : Hp} {pins : List (Addr × Obj)} {σ : L2.St} {s : Shared} (I : Inv X pins σ H s) : ∀ {xs : List V} {us : List Value} {ds : List PyData}, Vals xs us → DpAll X.K H xs ds →
    PySem.W.EachIs (fun (u : Value) (p : V × PyData) => RelV p.1 u) us (xs.zip ds) ∧ PySem.W.EachIs (fun (u : Value) (p : V × PyData) => ∃ as, Reads s.heap u p.2 as) us (xs.zip ds)
  | _, _, _, .nil, .nil => ⟨.nil, .nil⟩
  | _, _, _, .cons r rs, .cons h hs => ⟨.cons r (each_zip I rs hs).1, .cons (Dp.reads I _ _ _ h r) (each_zip I rs hs).2⟩
theorem vals_each : ∀ {us : List Value} {l : List (V × PyData)}, PySem.W.EachIs (fun (u : Value) (p : V × PyData) => RelV p.1 u) us l → Vals (l.map Prod.fst) us
  | _, _, .nil => .nil
  | _, _, .cons r rs => .cons r (vals_each rs)
theorem zip_snd {xs : List V} {ds : List PyData} (h : xs.length = ds.length) : (xs.zip ds).map Prod.snd = ds := List.map_snd_zip (by omega)
theorem cr_sortD {K : PySem.W.Frag} (hu : X.A.units + 64 < cLine) (hK : X.K = K := by rfl) : CallR X (.builtin "sorted") (fun vs H Q => ∃ (a : Addr) (xs : List V) (ds : List PyData), vs = [V.ref a] ∧ SqL K H a xs ∧ DpAll K H xs ds ∧ PySem.W.AllAlike ds ∧ PySem.W.Sortable ds ∧ (∀ d ∈ ds, d.depth ≤ 60) ∧
    ∀ ys p, H p = none → (∀ F, DpAll K F xs ds → DpAll K F ys (dSort ds)) → (∀ y ∈ ys, y ∈ xs) → Q (.ref p) (upd H p (.lst ys))) := by
  subst hK
  intro pins s σ H vs us Q I r h
  obtain ⟨a, xs, ds, rfl, hs, hd, hal, hsr, hdp, q⟩ := h
  obtain ⟨its, rv, hl, hz⟩ := I.list hs
  rw [Vals.ref1 r]
  have hlen := DpAll.length hd
  obtain ⟨e1, e2⟩ := each_zip I rv hd
  have esnd := zip_snd hlen
  refine PySem.W.sorted_data (enc := Prod.snd) hl.isList e1 e2 (by rw [esnd]; exact hal) (by rw [esnd]; exact hsr) (by rw [List.length_zip]; omega) (fun p hp => ?_) fun out hout he => ?_
  · have := hdp p.2 (by rw [← esnd]; exact List.mem_map_of_mem hp)
    omega
  · obtain ⟨e, hat⟩ := sortedAll_at s.heap its out.toArray
    have hmem : ∀ p ∈ (xs.zip ds).mergeSort (PySem.W.dataLe false Prod.snd), p ∈ xs.zip ds := fun p hp => (List.mergeSort_perm _ _).mem_iff.mp hp
    have hys : ∀ F, DpAll X.K F xs ds → DpAll X.K F (((xs.zip ds).mergeSort (PySem.W.dataLe false Prod.snd)).map Prod.fst) (dSort ds) := fun F hF => by
      have h1 := dpAll_of (K := X.K) (H := F) ((xs.zip ds).mergeSort (PySem.W.dataLe false Prod.snd)) fun p hp => DpAll.pairs hF p (hmem p hp)
      have h2 : ((xs.zip ds).mergeSort (PySem.W.dataLe false Prod.snd)).map Prod.snd = dSort ds := by
        rw [PySem.W.sort_maps (r := PySem.W.dataLe false Prod.snd) (s := PySem.W.dataLe false id) Prod.snd (fun _ _ _ _ => rfl), esnd]
      rw [h2] at h1
      exact h1
    have hv := vals_each he
    refine ⟨.ref (s.heap.objs.size + 1), upd H (s.heap.objs.size + 1) (.lst _), I.laid (t' := s.toks) (fun b u eb => sortedAll_old eb) (by omega) (show ObjOk X.prog X.w _ _ _ (.lst _) from ⟨?_, out, e, hv, ?_⟩), rfl, q _ _ (I.hok.fresh (by omega)) hys fun y hy => ?_⟩
    · rw [List.length_map, List.length_mergeSort, List.length_zip]
      omega
    · exact hat
    · obtain ⟨p, hp, rfl⟩ := List.mem_map.mp hy
      exact (List.of_mem_zip (hmem p hp)).1
end
end CB

set_option Elab.async false
set_option linter.all false
set_option maxRecDepth 100000
set_option maxHeartbeats 2000000
namespace CB
open PySem PySem.Spec PyProof.Rows L2

/-! ### rows as data: they may be compared and shown -/
abbrev Sml (x : Int) : Prop := x.natAbs.log2 < 1920
theorem sml_of {x : Int} {k : Nat} (h : x.natAbs < 2 ^ k) (hk : 0 < k) (h2 : k ≤ 1920) : Sml x := Nat.lt_of_lt_of_le (PySem.Flt.log2_lt_of hk h) h2
theorem canLay_tis : ∀ r : List (List Int), PyData.canLayAll0 (r.map ti) = true
  | [] => rfl
  | p :: r => by
    show (PyData.canLayAll0 (p.map PyData.int) && PyData.canLayAll0 (r.map ti)) = true
    rw [canLay_ints, canLay_tis r]
    rfl
theorem depth_ints' (p : List Int) : PyData.depthAll (p.map PyData.int) = 0 := PySem.W.depth_ints p
theorem depth_tis : ∀ r : List (List Int), PyData.depthAll (r.map ti) ≤ 1
  | [] => Nat.zero_le _
  | p :: r => by
    show max (PyData.depthAll (p.map PyData.int) + 1) (PyData.depthAll (r.map ti)) ≤ 1
    rw [depth_ints']
    have := depth_tis r
    omega
theorem ti_shaped (p : List Int) : SeqAt.shaped (ti p) = true := by
  unfold SeqAt.shaped
  rw [Bool.and_eq_true, decide_eq_true_eq]
  refine ⟨canLay_ints p, ?_⟩
  show PyData.depthAll (p.map PyData.int) + 1 ≤ 64
  rw [depth_ints']
  decide
theorem li_shaped (p : List Int) : SeqAt.shaped (li p) = true := by
  unfold SeqAt.shaped
  rw [Bool.and_eq_true, decide_eq_true_eq]
  refine ⟨canLay_ints p, ?_⟩
  show PyData.depthAll (p.map PyData.int) + 1 ≤ 64
  rw [depth_ints']
  decide
theorem lti_shaped (r : List (List Int)) : SeqAt.shaped (lti r) = true := by
  unfold SeqAt.shaped
  rw [Bool.and_eq_true, decide_eq_true_eq]
  refine ⟨canLay_tis r, ?_⟩
  show PyData.depthAll (r.map ti) + 1 ≤ 64
  have := depth_tis r
  omega
theorem tti_shaped (r : List (List Int)) : SeqAt.shaped (tti r) = true := by
  unfold SeqAt.shaped
  rw [Bool.and_eq_true, decide_eq_true_eq]
  refine ⟨canLay_tis r, ?_⟩
  show PyData.depthAll (r.map ti) + 1 ≤ 64
  have := depth_tis r
  omega
theorem ints_showable (p : List Int) (h : ∀ x ∈ p, Sml x) : PyData.showableAll (p.map PyData.int) = true := PyData.showableAll_ints p h
theorem ti_showable {p : List Int} (h : ∀ x ∈ p, Sml x) : (ti p).showable = true := ints_showable p h
theorem li_showable {p : List Int} (h : ∀ x ∈ p, Sml x) : (li p).showable = true := ints_showable p h
theorem tis_showable (r : List (List Int)) (h : ∀ p ∈ r, ∀ x ∈ p, Sml x) : PyData.showableAll (r.map ti) = true := showableAll_of fun d hd => by
  obtain ⟨p, hp, rfl⟩ := List.mem_map.mp hd
  exact ti_showable (h p hp)
theorem lti_showable {r : List (List Int)} (h : ∀ p ∈ r, ∀ x ∈ p, Sml x) : (lti r).showable = true := tis_showable r h
theorem tti_showable {r : List (List Int)} (h : ∀ p ∈ r, ∀ x ∈ p, Sml x) : (tti r).showable = true := tis_showable r h
theorem int_shown {x : Int} (h : Sml x) : (PyData.shown (.int x)).length ≤ 1921 := PyProof.Rows.int_text_len_1921 h
theorem ints_shown : ∀ (p : List Int), (∀ x ∈ p, Sml x) → ((PyData.shownAll (p.map PyData.int)).map (·.length)).sum ≤ 1921 * p.length
  | [], _ => Nat.zero_le _
  | x :: p, h => by
    have h1 := int_shown (h x List.mem_cons_self)
    have h2 := ints_shown p fun y hy => h y (List.mem_cons_of_mem _ hy)
    show (PyData.shown (.int x)).length + ((PyData.shownAll (p.map PyData.int)).map (·.length)).sum ≤ 1921 * (p.length + 1)
    omega
theorem ti_shown {p : List Int} (h : ∀ x ∈ p, Sml x) : (ti p).shown.length ≤ 1923 * p.length + 3 := by
  have h1 := tupleText_len_le (PyData.shownAll (p.map PyData.int))
  have h2 := ints_shown p h
  have h3 : (PyData.shownAll (p.map PyData.int)).length = p.length := by rw [PyData.shownAll_length, List.length_map]
  show (tupleText (PyData.shownAll (p.map PyData.int))).length ≤ _
  omega
theorem li_shown {p : List Int} (h : ∀ x ∈ p, Sml x) : (li p).shown.length ≤ 1923 * p.length + 3 := by
  have h1 := listText_len_le (PyData.shownAll (p.map PyData.int))
  have h2 := ints_shown p h
  have h3 : (PyData.shownAll (p.map PyData.int)).length = p.length := by rw [PyData.shownAll_length, List.length_map]
  show (listText (PyData.shownAll (p.map PyData.int))).length ≤ _
  omega
theorem tis_shown {m : Nat} : ∀ (r : List (List Int)), (∀ p ∈ r, p.length ≤ m ∧ ∀ x ∈ p, Sml x) → ((PyData.shownAll (r.map ti)).map (·.length)).sum ≤ (1923 * m + 3) * r.length
  | [], _ => Nat.zero_le _
  | p :: r, h => by
    obtain ⟨l1, l2⟩ := h p List.mem_cons_self
    have h1 := ti_shown l2
    have h2 := tis_shown r fun y hy => h y (List.mem_cons_of_mem _ hy)
    have h3 : 1923 * p.length ≤ 1923 * m := Nat.mul_le_mul_left _ l1
    show (ti p).shown.length + ((PyData.shownAll (r.map ti)).map (·.length)).sum ≤ (1923 * m + 3) * (r.length + 1)
    rw [Nat.mul_succ]
    omega
theorem lti_shown {m : Nat} {r : List (List Int)} (h : ∀ p ∈ r, p.length ≤ m ∧ ∀ x ∈ p, Sml x) : (lti r).shown.length ≤ (1923 * m + 5) * r.length + 3 := by
  have h1 := listText_len_le (PyData.shownAll (r.map ti))
  have h2 := tis_shown r h
  have h3 : (PyData.shownAll (r.map ti)).length = r.length := by rw [PyData.shownAll_length, List.length_map]
  have h4 : (1923 * m + 5) * r.length = (1923 * m + 3) * r.length + 2 * r.length := by rw [← Nat.add_mul]
  show (listText (PyData.shownAll (r.map ti))).length ≤ _
  omega
theorem tti_shown {m : Nat} {r : List (List Int)} (h : ∀ p ∈ r, p.length ≤ m ∧ ∀ x ∈ p, Sml x) : (tti r).shown.length ≤ (1923 * m + 5) * r.length + 3 := by
  have h1 := tupleText_len_le (PyData.shownAll (r.map ti))
  have h2 := tis_shown r h
  have h3 : (PyData.shownAll (r.map ti)).length = r.length := by rw [PyData.shownAll_length, List.length_map]
  have h4 : (1923 * m + 5) * r.length = (1923 * m + 3) * r.length + 2 * r.length := by rw [← Nat.add_mul]
  show (tupleText (PyData.shownAll (r.map ti))).length ≤ _
  omega
/-! ### products -/
/-- a product with one box more, to a degree -/
def ext (d : Int) (p : List Int) : List (List Int) := (List.range (d - p.sum + 1).toNat).map fun (o : Nat) => p ++ [(o : Int)]
def raw (d : Int) : Nat → List (List Int)
  | 0 => [[]]
  | n + 1 => (raw d n).flatMap (ext d)
/-- a product beside its degree -/
def encP (p : List Int) : PyData := .tuple [.int p.sum, ti p]
def prods (n : Nat) (d : Int) : List (List Int) := (raw d n).mergeSort (PySem.W.dataLe false encP)
theorem ext_mem {d : Int} {p q : List Int} (h : q ∈ ext d p) : ∃ o : Nat, q = p ++ [(o : Int)] ∧ (o : Int) ≤ d - p.sum := by
  obtain ⟨o, ho, rfl⟩ := List.mem_map.mp h
  rw [List.mem_range] at ho
  exact ⟨o, rfl, by omega⟩
theorem sum_snoc (p : List Int) (o : Int) : (p ++ [o]).sum = p.sum + o := by
  rw [List.sum_append]
  simp
theorem raw_ok {d : Int} (hd : 0 ≤ d) : ∀ (n : Nat) (p : List Int), p ∈ raw d n → p.length = n ∧ 0 ≤ p.sum ∧ p.sum ≤ d ∧ ∀ x ∈ p, 0 ≤ x
  | 0, p, h => by
    rw [List.mem_singleton.mp (show p ∈ [[]] from h)]
    exact ⟨rfl, by decide, hd, fun x hx => by cases hx⟩
  | n + 1, p, h => by
    obtain ⟨q, hq, hp⟩ := List.mem_flatMap.mp h
    obtain ⟨h1, h2, h3, h4⟩ := raw_ok hd n q hq
    obtain ⟨o, rfl, ho⟩ := ext_mem hp
    refine ⟨by rw [List.length_append, h1]; rfl, by rw [sum_snoc]; omega, by rw [sum_snoc]; omega, fun x hx => ?_⟩
    rcases List.mem_append.mp hx with hx | hx
    · exact h4 x hx
    · rw [List.mem_singleton.mp hx]; omega
theorem ext_len {d : Int} {p : List Int} (h0 : 0 ≤ p.sum) (hd : d ≤ 6) : (ext d p).length ≤ 7 := by
  unfold ext
  rw [List.length_map, List.length_range]
  omega
theorem flat_len {d : Int} : ∀ (l : List (List Int)), (∀ p ∈ l, 0 ≤ p.sum) → d ≤ 6 → (l.flatMap (ext d)).length ≤ 7 * l.length
  | [], _, _ => by simp
  | p :: r, h, hd => by
    rw [List.flatMap_cons, List.length_append, List.length_cons]
    have h1 := ext_len (h p List.mem_cons_self) hd
    have h2 := flat_len r (fun q hq => h q (List.mem_cons_of_mem _ hq)) hd
    omega
theorem raw_len {d : Int} (hd : 0 ≤ d) (hd6 : d ≤ 6) : ∀ n : Nat, (raw d n).length ≤ 7 ^ n
  | 0 => Nat.le_refl 1
  | n + 1 => by
    have h1 := flat_len (raw d n) (fun p hp => (raw_ok hd n p hp).2.1) hd6
    have h2 := raw_len hd hd6 n
    show ((raw d n).flatMap (ext d)).length ≤ 7 ^ n * 7
    omega
theorem raw_len6 {d : Int} (hd : 0 ≤ d) (hd6 : d ≤ 6) {n : Nat} (hn : n ≤ 6) : (raw d n).length ≤ 117649 :=
  Nat.le_trans (raw_len hd hd6 n) (Nat.le_trans (Nat.pow_le_pow_right (by decide) hn) (by decide))
theorem prods_len (n : Nat) (d : Int) : (prods n d).length = (raw d n).length := List.length_mergeSort _
theorem prods_mem {n : Nat} {d : Int} {p : List Int} : p ∈ prods n d ↔ p ∈ raw d n := (List.mergeSort_perm _ _).mem_iff
theorem prods_ok {d : Int} (hd : 0 ≤ d) {n : Nat} {p : List Int} (h : p ∈ prods n d) : p.length = n ∧ 0 ≤ p.sum ∧ p.sum ≤ d ∧ ∀ x ∈ p, 0 ≤ x := raw_ok hd n p (prods_mem.mp h)
theorem sort_enc (l : List (List Int)) : dSort (l.map encP) = (l.mergeSort (PySem.W.dataLe false encP)).map encP :=
  (PySem.W.sort_maps (r := PySem.W.dataLe false encP) (s := PySem.W.dataLe false id) encP (fun _ _ _ _ => rfl)).symm
theorem alike_ints' (xs ys : List Int) : PySem.W.alikeAll (xs.map PyData.int) (ys.map PyData.int) = true := PySem.W.alike_ints xs ys
theorem enc_alike (l : List (List Int)) : PySem.W.AllAlike (l.map encP) := PySem.W.AllAlike.of fun p q => by
  show (true && (PySem.W.alikeAll (p.map PyData.int) (q.map PyData.int) && true)) = true
  rw [alike_ints']
  rfl
theorem enc_sortable (l : List (List Int)) : PySem.W.Sortable (l.map encP) := PySem.W.Sortable.tuples fun p => ⟨_, _, rfl⟩
theorem enc_depth (l : List (List Int)) : ∀ d ∈ l.map encP, d.depth ≤ 60 := fun d hd => by
  obtain ⟨p, _, rfl⟩ := List.mem_map.mp hd
  show max 0 (max (PyData.depthAll (p.map PyData.int) + 1) 0) + 1 ≤ 60
  rw [PySem.W.depth_ints]
  decide
/-- how many products there are, as it is reckoned -/
def hm (d : Int) : Nat → Int
  | 0 => 1
  | k + 1 => (hm d k * (d + (1 + (k : Int)))).fdiv (1 + (k : Int))
def sp_how_many : Sp := fun vs H Q _ => ∃ (n : Nat) (d : Int), vs = [.int (n : Int), .int d] ∧ n ≤ 6 ∧ 0 ≤ d ∧ d ≤ 6 ∧ Q (.int (hm d n)) H
/-- the promise: a new list of tuples -/
def sp_products (K : PySem.W.Frag) : Sp := fun vs H Q _ => ∃ (n : Nat) (d : Int) (F : Hp), vs = [.int (n : Int), .int d] ∧ Ex F H ∧ n ≤ 6 ∧ 0 ≤ d ∧ d ≤ 6 ∧
  ∀ p xs F' H', H p = none → Gr NoS F H F' H' → F' p = none → H' p = some (.lst xs) → DpAll K F' xs ((prods n d).map ti) → Q (.ref p) H'
end CB

set_option Elab.async false
set_option linter.all false
set_option maxRecDepth 100000
set_option maxHeartbeats 2000000
namespace CB
open PySem PySem.Spec PyProof.Rows L2
/-- what a def of data hands back: a value that reads as d, the frozen part grown -/
def RetD (K : PySem.W.Frag) (F H : Hp) (Q : VK) (d : PyData) : Prop := ∀ v F' H', Gr NoS F H F' H' → Dp K F' v d → Q v H'
/-- tuple(a list of ours) -/
theorem RetD.tuple {K : PySem.W.Frag} {F H F1 H1 : Hp} {Q : VK} {xs : List V} {ds : List PyData} {l : Addr} (q : RetD K F H Q (.tuple ds)) (g : Gr NoS F H F1 H1) (hl : H1 l = some (.lst xs)) (hd : DpAll K F1 xs ds) :
    (∃ p ys, [V.ref l] = [.ref p] ∧ ((SqL K H1 p ys ∧ ∀ l, H1 l = none → Q (.ref l) (upd H1 l (.tup ys))) ∨ (SqT K H1 p ys ∧ Q (.ref p) H1))) :=
  ⟨l, xs, rfl, .inl ⟨SqL.of hl, fun t nt => q _ _ _ (g.new nt) (.tup (SqT.of upd_same) (hd.ex (Evl.Ex.new (sub_none g.sub nt))))⟩⟩
theorem sum_nonneg : ∀ {p : List Int}, (∀ x ∈ p, 0 ≤ x) → 0 ≤ p.sum
  | [], _ => by decide
  | y :: r, h => by
    rw [List.sum_cons]
    have h1 := h y List.mem_cons_self
    have h2 := sum_nonneg (p := r) fun z hz => h z (List.mem_cons_of_mem _ hz)
    omega
theorem le_sum : ∀ {p : List Int} {x : Int}, (∀ x ∈ p, 0 ≤ x) → x ∈ p → x ≤ p.sum
  | [], _, _, hx => by cases hx
  | y :: r, x, h, hx => by
    rw [List.sum_cons]
    have h1 := h y List.mem_cons_self
    have h2 := sum_nonneg (p := r) fun z hz => h z (List.mem_cons_of_mem _ hz)
    rcases List.mem_cons.mp hx with rfl | hx
    · omega
    · have := le_sum (p := r) (fun z hz => h z (List.mem_cons_of_mem _ hz)) hx
      omega
/-! ### boxes multiplied -/
/-- the boxes (first) taken as often (second) -/
def wL (l : List (Int × Int)) : Int := l.foldl (fun w q => w * q.1 ^ q.2.toNat) 1
theorem wL_snoc (l : List (Int × Int)) (q : Int × Int) : wL (l ++ [q]) = wL l * q.1 ^ q.2.toNat := by
  unfold wL
  rw [List.foldl_append]
  rfl
def rowL (n : Nat) (d : Int) (boxes : List Int) : List Int := (prods n d).map fun p => wL (boxes.zip p)
theorem zip_get {α β : Type} {xs : List α} {ys : List β} {i : Nat} {x : α} {y : β} (hx : xs[i]? = some x) (hy : ys[i]? = some y) : (xs.zip ys)[i]? = some (x, y) := by
  rw [List.getElem?_zip_eq_some]
  exact ⟨hx, hy⟩
theorem take_zip_snoc {α β : Type} {xs : List α} {ys : List β} {i : Nat} {x : α} {y : β} (hx : xs[i]? = some x) (hy : ys[i]? = some y) : (xs.zip ys).take (i + 1) = (xs.zip ys).take i ++ [(x, y)] := by
  rw [List.take_add_one, zip_get hx hy]
  rfl
theorem int_get {ns : List Int} {i : Nat} {v : V} (h : (ns.map V.int)[i]? = some v) : ∃ x, ns[i]? = some x ∧ v = .int x := by
  rw [List.getElem?_map] at h
  obtain ⟨x, e, rfl⟩ := Option.map_eq_some_iff.mp h
  exact ⟨x, e, rfl⟩
/-- the promise of boxes_row -/
def sp_boxes_row (K : PySem.W.Frag) : Sp := fun vs H Q _ => ∃ (n : Nat) (d : Int) (bs : List Int) (v : V) (F : Hp), vs = [.int (n : Int), .int d, v] ∧ Ex F H ∧ Dp K F v (ti bs) ∧ bs.length = n ∧ n ≤ 6 ∧ 0 ≤ d ∧ d ≤ 6 ∧ (∀ x ∈ bs, -1000000 ≤ x ∧ x ≤ 1000000) ∧ RetD K F H Q (ti (rowL n d bs))
/-- the promise of a def that tells a row of all numbers -/
def sp_map_row (K : PySem.W.Frag) : Sp := fun vs H Q _ => ∃ (v : V) (r : List (List Int)) (F : Hp), vs = [v] ∧ Ex F H ∧ Dp K F v (tti r) ∧ r.flatten.length ≤ 10000 ∧ RetD K F H Q (ti r.flatten)
def sp_row_map (K : PySem.W.Frag) : Sp := fun vs H Q _ => ∃ (v : V) (r : List (List Int)) (m : Nat) (F : Hp), vs = [.int (r.length : Int), v] ∧ Ex F H ∧ Dp K F v (ti r.flatten) ∧ 0 < r.length ∧ r.length ≤ 1000 ∧ m ≤ 1000 ∧ (∀ p ∈ r, p.length = m) ∧ RetD K F H Q (tti r)
theorem flat_len_eq {r : List (List Int)} {m : Nat} (h : ∀ p ∈ r, p.length = m) : r.flatten.length = r.length * m := by
  induction r with
  | nil => simp
  | cons p r ih =>
    rw [List.flatten_cons, List.length_append, h p List.mem_cons_self, ih fun q hq => h q (List.mem_cons_of_mem _ hq), List.length_cons, Nat.succ_mul]
    omega
theorem flat_cut {m : Nat} : ∀ {r : List (List Int)} {k : Nat} {p : List Int}, (∀ p ∈ r, p.length = m) → r[k]? = some p → (r.flatten.drop (k * m)).take m = p
  | [], _, _, _, h => by simp at h
  | q :: r, 0, p, h, e => by
    have e' : q = p := by simpa using e
    subst e'
    rw [Nat.zero_mul, List.drop_zero, List.flatten_cons, List.take_append_of_le_length (by rw [h q List.mem_cons_self]; exact Nat.le_refl _)]
    exact List.take_of_length_le (by rw [h q List.mem_cons_self]; exact Nat.le_refl _)
  | q :: r, k + 1, p, h, e => by
    have ih := flat_cut (r := r) (k := k) (fun q hq => h q (List.mem_cons_of_mem _ hq)) (by simpa using e)
    rw [List.flatten_cons, Nat.succ_mul, Nat.add_comm (k * m) m, ← List.drop_drop]
    have e2 : (q ++ r.flatten).drop m = r.flatten := by
      rw [← h q List.mem_cons_self]
      exact List.drop_left
    rw [e2]
    exact ih
theorem cut_nat (xs : List V) {a b : Nat} (h : b ≤ xs.length) : cutV xs (some (a : Int)) (some (b : Int)) = (xs.drop (min a xs.length)).take (b - min a xs.length) := by
  unfold cutV
  rw [HT.sIx_nat, HT.sIx_nat, Nat.min_eq_left h]
/-! ### the deal beside a frozen part -/
structure Wr (d l : Addr) (F H : Hp) : Prop where
  sub : Ex F H
  nd : F d = none
  nl : F l = none
  deal : IsDeal H d l
section
variable {d l p : Addr} {F H F' H' : Hp} {o : HO}
theorem Wr.draw (h : Wr d l F H) (D : IsDeal H' d l) (k : Kp d l H H') : Wr d l F H' := ⟨fun b o e => k b o (ne_of_none e h.nd) (ne_of_none e h.nl) (h.sub b o e), h.nd, h.nl, D⟩
theorem Wr.gr (h : Wr d l F H) (g : Gr NoS F H F' H') : Wr d l F' H' := by
  obtain ⟨s, n, ls, D⟩ := h.deal
  exact ⟨g.sub, g.nf d h.nd (by rw [D.hd]; exact fun z => by cases z), g.nf l h.nl (by rw [D.hl]; exact fun z => by cases z), h.deal.ex g.ex⟩
theorem Wr.new (h : Wr d l F H) (hp : H p = none) : Wr d l (upd F p o) (upd H p o) := h.gr ((Gr.refl h.sub).new hp)
theorem Wr.newm (h : Wr d l F H) (hp : H p = none) : Wr d l F (upd H p o) := h.gr ((Gr.refl h.sub).newm hp)
theorem Wr.mut (h : Wr d l F H) (hf : F p = none) (n1 : p ≠ d) (n2 : p ≠ l) : Wr d l F (upd H p o) :=
  ⟨fun b u e => by rw [upd_ne (ne_of_none e hf)]; exact h.sub b u e, h.nd, h.nl, h.deal.upd n1 n2⟩
theorem Wr.ne (h : Wr d l F H) (hp : H p = none) : p ≠ d ∧ p ≠ l := h.deal.nd hp
theorem Kp.none (k : Kp d l H H') (n1 : p ≠ d) (n2 : p ≠ l) (e : H' p = none) : H p = none := by
  cases q : H p with
  | none => rfl
  | some o => rw [k p o n1 n2 q] at e; cases e
theorem Gr.toKp (g : Gr NoS F H F' H') : Kp d l H H' := Kp.of_ex g.ex
theorem Gr.of_ex (h : Ex F H) (x : Ex H H') : Gr NoS F H F H' := ⟨fun _ _ e => e, h.trans x, fun a o _ e => x a o e, fun a e => by
  cases q : H a with
  | none => exact absurd q e
  | some o => rw [x a o q]; exact fun z => (by cases z), fun _ e _ => e⟩
end
theorem rep_zero (ns : List Int) (k : Nat) : ns.map V.int ++ (List.replicate k [V.int 0]).flatten = (ns ++ List.replicate k 0).map V.int := by
  rw [List.map_append, List.map_replicate]
  congr 1
  induction k with
  | zero => rfl
  | succ k ih => rw [List.replicate_succ, List.flatten_cons, ih]; rfl
theorem eqv_refl (d : PyData) (h : SeqAt.shaped d = true) : PyData.eqv d d = true := SeqAt.eqv_refl d (SeqAt.canLay_of_shaped h)
end CB

set_option Elab.async false
set_option linter.all false
set_option maxRecDepth 100000
set_option maxHeartbeats 2000000
namespace CB
open PySem PySem.Spec PyProof.Rows L2
section
variable {X : Cx} {K : PySem.W.Frag}
theorem pg_lstK {es : List Expr} {k n : Nat} {t : TGs} {pos : Pos} (hc : X.calm = true) (h : PGs X es t)
    (hn : (assignEach es X.env).length = n := by rfl) (hst : (assignEach es X.env).findIdx? (·.1) = none := by rfl) (hK : X.K = K := by rfl) : PG X (.Tuple es k pos) (gLst K n t) := hK ▸ pg_lst hc h hn hst
end
/-! ### sums -/
def S (n : Nat) (f : Nat → Int) : Int := ((List.range n).map f).sum
section
variable {n m k : Nat} {f g : Nat → Int}
theorem S_zero : S 0 f = 0 := rfl
theorem S_succ : S (n + 1) f = S n f + f n := by
  unfold S
  rw [List.range_succ, List.map_append, List.sum_append]
  simp
theorem S_congr : ∀ {n : Nat}, (∀ i, i < n → f i = g i) → S n f = S n g
  | 0, _ => rfl
  | n + 1, h => by rw [S_succ, S_succ, S_congr fun i hi => h i (by omega), h n (by omega)]
theorem S_add : ∀ {n : Nat}, S n (fun i => f i + g i) = S n f + S n g
  | 0 => rfl
  | n + 1 => by rw [S_succ, S_succ, S_succ, S_add]; omega
theorem S_mul (c : Int) : ∀ {n : Nat}, S n (fun i => c * f i) = c * S n f
  | 0 => by rw [S_zero, S_zero, Int.mul_zero]
  | n + 1 => by rw [S_succ, S_succ, S_mul c, Int.mul_add]
theorem S_mulr (c : Int) : ∀ {n : Nat}, S n (fun i => f i * c) = S n f * c
  | 0 => by rw [S_zero, S_zero, Int.zero_mul]
  | n + 1 => by rw [S_succ, S_succ, S_mulr c, Int.add_mul]
theorem S_null (h : ∀ i, i < n → f i = 0) : S n f = 0 := by
  rw [S_congr (g := fun _ => 0) h]
  clear h
  induction n with
  | zero => rfl
  | succ n ih => rw [S_succ, ih]; rfl
theorem S_swap {F : Nat → Nat → Int} : ∀ {n : Nat}, S n (fun i => S m (F i)) = S m (fun j => S n (fun i => F i j))
  | 0 => by
    rw [S_zero]
    exact (S_null fun _ _ => rfl).symm
  | n + 1 => by
    rw [S_succ, S_swap, ← S_add]
    exact S_congr fun j _ => S_succ.symm
theorem S_one : ∀ {n : Nat}, k < n → (∀ i, i < n → i ≠ k → f i = 0) → S n f = f k
  | 0, h, _ => by omega
  | n + 1, h, hz => by
    rw [S_succ]
    by_cases e : k = n
    · subst e
      rw [S_null fun i hi => hz i (by omega) (by omega)]
      omega
    · rw [S_one (n := n) (by omega) fun i hi => hz i (by omega), hz n (by omega) (fun h => e h.symm)]
      omega
theorem S_abs {B : Nat} : ∀ {n : Nat}, (∀ i, i < n → (f i).natAbs ≤ B) → (S n f).natAbs ≤ n * B
  | 0, _ => by simp [S_zero]
  | n + 1, h => by
    rw [S_succ, Nat.succ_mul]
    have h1 := S_abs (n := n) fun i hi => h i (by omega)
    have h2 := h n (by omega)
    omega
end
/-! ### maps of rows -/
def at2 (M : List (List Int)) (i j : Nat) : Int := (M.getD i []).getD j 0
def pbI (w : Nat) (M : List (List Int)) (p : List Int) (i : Nat) : List Int := (List.range w).map fun j => S i fun t => p.getD t 0 * at2 M t j
def pb (w : Nat) (M : List (List Int)) (p : List Int) : List Int := pbI w M p M.length
def sg (many k : Nat) : List Int := (List.range many).map fun j => if j = k then (1 : Int) else 0
def sm (many : Nat) : List (List Int) := (List.range many).map (sg many)
section
variable {w i j : Nat} {M : List (List Int)} {p : List Int} {x : Int} {row : List Int}
theorem pbI_len : (pbI w M p i).length = w := by unfold pbI; rw [List.length_map, List.length_range]
theorem pb_len : (pb w M p).length = w := pbI_len
theorem pbI_get (hj : j < w) : (pbI w M p i)[j]? = some (S i fun t => p.getD t 0 * at2 M t j) := by
  unfold pbI
  rw [List.getElem?_map, List.getElem?_range hj]
  rfl
theorem getD_of {α : Type} {l : List α} {a d : α} (h : l[i]? = some a) : l.getD i d = a := by rw [List.getD_eq_getElem?_getD, h]; rfl
theorem pbI_next {h t : Int} (ep : p[i]? = some x) (eM : M[i]? = some row) (hw : row.length = w) (eh : (pbI w M p i)[j]? = some h) (et : row[j]? = some t) : (pbI w M p (i + 1))[j]? = some (h + x * t) := by
  have hj : j < w := by
    have := (List.getElem?_eq_some_iff.mp et).1
    omega
  rw [pbI_get hj] at eh ⊢
  cases eh
  rw [S_succ, getD_of ep]
  unfold at2
  rw [getD_of eM, getD_of et]
theorem pbI_zero (ep : p[i]? = some 0) : pbI w M p (i + 1) = pbI w M p i := by
  unfold pbI
  refine List.map_congr_left fun j _ => ?_
  rw [S_succ, getD_of ep, Int.zero_mul, Int.add_zero]
theorem pbI_nil : pbI w M p 0 = List.replicate w 0 := by
  unfold pbI
  show (List.range w).map (fun _ => (0 : Int)) = _
  rw [List.map_const', List.length_range]
theorem sg_len {many k : Nat} : (sg many k).length = many := by unfold sg; rw [List.length_map, List.length_range]
theorem sm_len {many : Nat} : (sm many).length = many := by unfold sm; rw [List.length_map, List.length_range]
theorem sg_get {many k : Nat} (hj : j < many) : (sg many k).getD j 0 = if j = k then 1 else 0 := by
  apply getD_of
  unfold sg
  rw [List.getElem?_map, List.getElem?_range hj]
  rfl
theorem sm_row {many : Nat} (hj : j < many) : (sm many).getD j [] = sg many j := by
  apply getD_of
  unfold sm
  rw [List.getElem?_map, List.getElem?_range hj]
  rfl
theorem at2_sm {many : Nat} (hi : i < many) (hj : j < many) : at2 (sm many) i j = if j = i then 1 else 0 := by
  unfold at2
  rw [sm_row hi, sg_get hj]
/-- the same map changes nothing -/
theorem pb_same (h : p.length = w) : pb w (sm w) p = p := by
  apply List.ext_getElem?
  intro j
  by_cases hj : j < w
  · have ep : p[j]? = some (p.getD j 0) := by
      rw [List.getD_eq_getElem?_getD, List.getElem?_eq_getElem (by omega)]
      rfl
    unfold pb
    rw [pbI_get hj, sm_len, ep, S_one (k := j) hj]
    · rw [at2_sm hj hj, if_pos rfl, Int.mul_one]
    · intro i hi ne
      rw [at2_sm hi hj, if_neg (fun e => ne e.symm), Int.mul_zero]
  · rw [List.getElem?_eq_none (by rw [pb_len]; omega), List.getElem?_eq_none (by omega)]
theorem pb_sg (hw : ∀ r ∈ M, r.length = w) {k : Nat} (eM : M[k]? = some row) : pb w M (sg M.length k) = row := by
  have hk : k < M.length := (List.getElem?_eq_some_iff.mp eM).1
  have hr : row.length = w := hw row (List.mem_of_getElem? eM)
  apply List.ext_getElem?
  intro j
  by_cases hj : j < w
  · have ep : row[j]? = some (row.getD j 0) := by
      rw [List.getD_eq_getElem?_getD, List.getElem?_eq_getElem (by omega)]
      rfl
    unfold pb
    rw [pbI_get hj, ep, S_one (k := k) hk]
    · rw [sg_get hk, if_pos rfl, Int.one_mul]
      unfold at2
      rw [getD_of eM]
    · intro i hi ne
      rw [sg_get hi, if_neg ne, Int.zero_mul]
  · rw [List.getElem?_eq_none (by rw [pb_len]; omega), List.getElem?_eq_none (by omega)]
theorem pb_sm (hw : ∀ r ∈ M, r.length = w) : (sm M.length).map (pb w M) = M := by
  apply List.ext_getElem?
  intro k
  by_cases hk : k < M.length
  · have eM : M[k]? = some M[k] := List.getElem?_eq_getElem hk
    unfold sm
    rw [List.getElem?_map, List.getElem?_map, List.getElem?_range hk, eM]
    show some (pb w M (sg M.length k)) = _
    rw [pb_sg hw eM]
  · rw [List.getElem?_eq_none (by rw [List.length_map, sm_len]; omega), List.getElem?_eq_none (by omega)]
/-- one map behind another -/
theorem pb_both {O : List (List Int)} : pb w (O.map (pb w M)) p = pb w M (pb M.length O p) := by
  show pbI w (O.map (pb w M)) p (O.map (pb w M)).length = pbI w M (pb M.length O p) M.length
  rw [List.length_map]
  show (List.range w).map _ = (List.range w).map _
  refine List.map_congr_left fun j hj => ?_
  rw [List.mem_range] at hj
  have e1 : ∀ i, i < O.length → at2 (O.map (pb w M)) i j = S M.length fun t => at2 O i t * at2 M t j := fun i hi => by
    unfold at2
    have eO : O[i]? = some (O.getD i []) := by rw [List.getD_eq_getElem?_getD, List.getElem?_eq_getElem hi]; rfl
    rw [getD_of (l := O.map (pb w M)) (a := pb w M (O.getD i [])) (by rw [List.getElem?_map, eO]; rfl)]
    unfold pb
    rw [getD_of (pbI_get hj)]
    rfl
  rw [S_congr (g := fun i => S M.length fun t => p.getD i 0 * (at2 O i t * at2 M t j)) fun i hi => by rw [e1 i hi, S_mul], S_swap]
  refine S_congr fun t ht => ?_
  rw [getD_of (l := pb M.length O p) (pbI_get ht), ← S_mulr]
  exact S_congr fun i _ => by rw [Int.mul_assoc]
theorem pb_small {B C : Nat} (hp : ∀ x ∈ p, x.natAbs ≤ B) (hM : ∀ r ∈ M, ∀ x ∈ r, x.natAbs ≤ C) : ∀ x ∈ pb w M p, x.natAbs ≤ M.length * (B * C) := fun x hx => by
  obtain ⟨j, _, rfl⟩ := List.mem_map.mp hx
  refine S_abs fun i hi => ?_
  rw [Int.natAbs_mul]
  refine Nat.mul_le_mul ?_ ?_
  · rw [List.getD_eq_getElem?_getD]
    cases e : p[i]? with
    | none => exact Nat.zero_le _
    | some y => exact hp y (List.mem_of_getElem? e)
  · unfold at2
    rw [List.getD_eq_getElem?_getD]
    cases e : (M.getD i [])[j]? with
    | none => exact Nat.zero_le _
    | some y =>
      rw [List.getD_eq_getElem?_getD, List.getElem?_eq_getElem hi] at e
      exact hM _ (List.getElem_mem hi) y (List.mem_of_getElem? e)
end
/-- the promises -/
def sp_single (K : PySem.W.Frag) : Sp := fun vs H Q _ => ∃ (m k : Nat) (F : Hp), vs = [.int (m : Int), .int (k : Int)] ∧ Ex F H ∧ m ≤ 1000 ∧ RetD K F H Q (ti (sg m k))
def sp_same_map (K : PySem.W.Frag) : Sp := fun vs H Q _ => ∃ (n m : Nat) (d : Int) (F : Hp), vs = [.int (n : Int), .int d] ∧ Ex F H ∧ n ≤ 6 ∧ 0 ≤ d ∧ d ≤ 6 ∧ hm d n = (m : Int) ∧ m ≤ 1000 ∧ RetD K F H Q (tti (sm m))
abbrev Wid (w : Nat) (M : List (List Int)) : Prop := ∀ r ∈ M, r.length = w
abbrev Few (p : List Int) : Prop := ∀ x ∈ p, -(2 ^ 64) < x ∧ x < 2 ^ 64
def sp_put_back (K : PySem.W.Frag) : Sp := fun vs H Q _ => ∃ (v1 v2 : V) (M : List (List Int)) (p : List Int) (w : Nat) (F : Hp), vs = [v1, v2] ∧ Ex F H ∧ Dp K F v1 (tti M) ∧ Dp K F v2 (ti p) ∧ M ≠ [] ∧ Wid w M ∧ w ≤ 1000 ∧ M.length ≤ 1000 ∧ p.length = M.length ∧ Few p ∧ RetD K F H Q (ti (pb w M p))
def sp_behind (K : PySem.W.Frag) : Sp := fun vs H Q _ => ∃ (v1 v2 : V) (M O : List (List Int)) (w : Nat) (F : Hp), vs = [v1, v2] ∧ Ex F H ∧ Dp K F v1 (tti M) ∧ Dp K F v2 (tti O) ∧ M ≠ [] ∧ Wid w M ∧ w ≤ 1000 ∧ M.length ≤ 1000 ∧ O.length ≤ 1000 ∧ Wid M.length O ∧ (∀ p ∈ O, Few p) ∧ RetD K F H Q (tti (O.map (pb w M)))
/-- _law_put_back: the width is told -/
def sp_put_backL (K : PySem.W.Frag) : Sp := fun vs H Q _ => ∃ (v1 v2 : V) (M : List (List Int)) (p : List Int) (w : Nat) (F : Hp), vs = [v1, v2, .int (w : Int)] ∧ Ex F H ∧ Dp K F v1 (tti M) ∧ Dp K F v2 (ti p) ∧ Wid w M ∧ w ≤ 1000 ∧ M.length ≤ 1000 ∧ p.length = M.length ∧ Few p ∧ RetD K F H Q (ti (pb w M p))
/-! ### data alike -/
def Al : Nat → PyData → Prop
  | 0, d => ∃ i, d = .int i
  | n + 1, d => ∃ ds, d = .tuple ds ∧ ds.length ≤ 1000 ∧ ∀ x ∈ ds, Al n x
def spA (K : PySem.W.Frag) : Nat → Sp
  | 0 => fun _ _ _ _ => False
  | n + 1 => fun vs H Q _ => ∃ (v1 v2 : V) (d : PyData) (F : Hp), vs = [v1, v2] ∧ Ex F H ∧ Dp K F v1 d ∧ Dp K F v2 d ∧ Al n d ∧ ∀ H', Ex H H' → Q (.bl true) H'
theorem al_ti {p : List Int} (h : p.length ≤ 1000) : Al 1 (ti p) := ⟨_, rfl, by rw [List.length_map]; exact h, fun x hx => by
  obtain ⟨i, _, rfl⟩ := List.mem_map.mp hx
  exact ⟨i, rfl⟩⟩
theorem al_tti {M : List (List Int)} (h : M.length ≤ 1000) (h2 : ∀ p ∈ M, p.length ≤ 1000) : Al 2 (tti M) := ⟨_, rfl, by rw [List.length_map]; exact h, fun x hx => by
  obtain ⟨p, hp, rfl⟩ := List.mem_map.mp hx
  exact al_ti (h2 p hp)⟩
end CB

set_option Elab.async false
set_option linter.all false
set_option maxRecDepth 100000
set_option maxHeartbeats 2000000
/-! max(a list of numbers, default=d) -/
namespace CB
open PySem PySem.Spec PyProof.Rows L2
def IsMx (num : Nat → Int) (j : Nat) (b : Int) : Prop := (∃ i, i < j ∧ num i = b) ∧ ∀ i, i < j → num i ≤ b
def Best (num : Nat → Int) (j : Nat) (old : Array Value) : Prop := (old = #[] ∧ j = 0) ∨ ∃ b t, old = #[.int b t, .int b t] ∧ IsMx num j b
def OutD (num : Nat → Int) (n : Nat) (d v : Value) : Prop := (n = 0 ∧ v = d) ∨ ∃ b t, v = .int b t ∧ IsMx num n b
section
variable {prog : Program} {w : World} {A : Around} {R : Result → Shared → Prop} {I : Addr} {fp wr : List Addr} {n : Nat} {P : Nat → Value → Prop} {St : Nat → Heap → Prop}
theorem IsMx.up {num : Nat → Int} {j : Nat} {b : Int} (h : IsMx num j b) (hg : num j > b) : IsMx num (j + 1) (num j) := ⟨⟨j, by omega, rfl⟩, fun i hi => by
  by_cases e : i = j
  · rw [e]; omega
  · have := h.2 i (by omega); omega⟩
theorem IsMx.stay {num : Nat → Int} {j : Nat} {b : Int} (h : IsMx num j b) (hg : ¬ num j > b) : IsMx num (j + 1) b := ⟨by obtain ⟨i, hi, e⟩ := h.1; exact ⟨i, by omega, e⟩, fun i hi => by
  by_cases e : i = j
  · rw [e]; omega
  · exact h.2 i (by omega)⟩
theorem max_loopD (W : Walks prog w A.in1 I fp wr n P St) {num : Nat → Int} (hnum : ∀ i v, P i v → ∃ t, v = .int (num i) t) (d : Value) {B : Addr} (hB : B ∉ fp) :
    ∀ (k j : Nat) (s : Shared) (old : Array Value) (c : Nat), n - j = k → j ≤ n → St j s.heap → Best num j old → s.heap.get? B = some { cls := .type "list", dict := none, data := .seq old c, slots := #[] } →
    (∀ v h' tk, OutD num n d v → (∀ b o, b ∉ wr → b ≠ B → s.heap.get? b = some o → h'.get? b = some o) → R (.ok (.ret v)) { s with heap := h', toks := tk }) →
    codeAny (model prog w) A (.builtin "max.loop" ⟨[.ref I, .none, .ref B], [("default", d)]⟩) R s := by
  have hBw : B ∉ wr := fun h => hB (W.sub _ h)
  have hname : (toString "max" ++ toString ".loop" : String) = "max.loop" := by decide
  intro k
  induction k with
  | zero =>
    intro j s old c hk hj hst hbest hS hR
    have hin : j = n := by omega
    subst hin
    refine codeAny_builtin F.entry_max_loop ?_
    rw [Around.under_plainId F.plain_max_loop _]
    show wpAny _ A.in1 (seqItems? (.ref B) >>= _) _ _ s
    refine wpAny_bind (wpAny_seqItems hS rfl ?_)
    show wpAny _ A.in1 (tryCatch (pyNext (.ref I)) _ >>= _) _ _ s
    refine wpAny_bind (wpAny_tryCatch (W.done s _ _ hst fun h' tk hk' => ?_))
    have hS' := hk' B _ hBw hS
    rcases hbest with ⟨rfl, h0⟩ | ⟨b, t, rfl, hm⟩
    · exact wpAny_bind (wpAny_rule (wpAny_pure (hR d h' tk (.inl ⟨h0, rfl⟩) fun b o hbw _ e => hk' b o hbw e)))
    · show wpAny _ A.in1 (updateSeq B (fun _ => #[]) >>= _) _ _ _
      refine wpAny_bind (wpAny_updateSeq hS' rfl (wpAny_bind (wpAny_letGo (wpAny_pure ?_))))
      exact hR _ _ tk (.inr ⟨b, t, rfl, hm⟩) fun x o hbw hbS e => (Heap.get?_update_other _ _ (Ne.symm hbS)).trans (hk' x o hbw e)
  | succ k ih =>
    intro j s old c hk hj hst hbest hS hR
    have hlt : j < n := by omega
    refine codeAny_builtin F.entry_max_loop ?_
    rw [Around.under_plainId F.plain_max_loop _]
    show wpAny _ A.in1 (seqItems? (.ref B) >>= _) _ _ s
    refine wpAny_bind (wpAny_seqItems hS rfl ?_)
    show wpAny _ A.in1 (tryCatch (pyNext (.ref I)) _ >>= _) _ _ s
    refine wpAny_bind (wpAny_tryCatch (W.item j s _ _ hlt hst fun v h' tk hP hst' hk' => ?_))
    have hS' := hk' B _ hBw hS
    obtain ⟨u, rfl⟩ := hnum j v hP
    -- the rest, once the best stands
    have go : ∀ (h2 : Heap) (tk2 : Nat) (old2 : Array Value) (c2 : Nat), St (j + 1) h2 → Best num (j + 1) old2 → h2.get? B = some { cls := .type "list", dict := none, data := .seq old2 c2, slots := #[] } → (∀ b o, b ∉ wr → b ≠ B → s.heap.get? b = some o → h2.get? b = some o) →
        codeAny (model prog w) A (.builtin "max.loop" ⟨[.ref I, .none, .ref B], [("default", d)]⟩) R { s with heap := h2, toks := tk2 } := fun h2 tk2 old2 c2 st2 b2 g2 k2 =>
      ih (j + 1) { s with heap := h2, toks := tk2 } old2 c2 (by omega) hlt st2 b2 g2 fun v' h'' tk'' ho hk'' => hR v' h'' tk'' ho fun b o hbw hbS e => hk'' b o hbw hbS (k2 b o hbw hbS e)
    have fr : ∀ (h2 : Heap), (∀ b, b ≠ B → h2.get? b = h'.get? b) → St (j + 1) h2 := fun h2 q => W.frame _ _ _ hst' fun b hbf o e => (q b fun z => hB (z ▸ hbf)).trans e
    rcases hbest with ⟨rfl, h0⟩ | ⟨b, t, rfl, hm⟩
    · show wpAny _ A.in1 (updateSeq B (fun _ => #[Value.int (num j) u, Value.int (num j) u]) >>= _) _ _ _
      refine wpAny_bind (wpAny_updateSeq hS' rfl ?_)
      rw [hname]
      refine wpAny_pure ⟨plainId_quiet F.plain_max_loop _, go _ tk _ _ (fr _ fun b hb => Heap.get?_update_other _ _ (Ne.symm hb)) (.inr ⟨num j, u, rfl, ⟨j, by omega, rfl⟩, fun i hi => ?_⟩) (Heap.get?_update_self _ hS' rfl) fun x o hbw hbS e => (Heap.get?_update_other _ _ (Ne.symm hbS)).trans (hk' x o hbw e)⟩
      have : i = j := by omega
      rw [this]
      exact Int.le_refl _
    · show wpAny _ A.in1 (tryCatch (holding [Value.int (num j) u, Value.int (num j) u] (richCompare .Gt (Value.int (num j) u) (Value.int b t) >>= _)) _ >>= _) _ _ _
      have hcmp := CmpOf.ints_gt (prog := prog) (w := w) (A := A.in1) (P := fun i v => ∃ t, v = Value.int (if i = 0 then num j else b) t) (fun i => if i = 0 then num j else b) (fun i v h => h)
      refine wpAny_bind (wpAny_tryCatch (wpAny_holding (wpAny_bind (hcmp 0 1 _ _ _ _ _ ⟨u, rfl⟩ ⟨t, rfl⟩ ?_))))
      refine wpAny_bind (wpAny_holding (wpAny_truthy_bool ?_))
      refine wpAny_bind (wpAny_letGo (wpAny_pure ?_))
      by_cases hg : num j > b
      · have e : decide ((if (0 : Nat) = 0 then num j else b) > if (1 : Nat) = 0 then num j else b) = true := decide_eq_true hg
        rw [if_pos e]
        refine wpAny_bind ?_
        refine wpAny_updateSeq hS' rfl (wpAny_bind (wpAny_letGo ?_))
        rw [hname]
        exact wpAny_pure ⟨plainId_quiet F.plain_max_loop _, go _ tk _ _ (fr _ fun b hb => Heap.get?_update_other _ _ (Ne.symm hb)) (.inr ⟨num j, u, rfl, hm.up hg⟩) (Heap.get?_update_self _ hS' rfl) fun x o hbw hbS e => (Heap.get?_update_other _ _ (Ne.symm hbS)).trans (hk' x o hbw e)⟩
      · have e : decide ((if (0 : Nat) = 0 then num j else b) > if (1 : Nat) = 0 then num j else b) = false := decide_eq_false hg
        rw [if_neg (fun h => Bool.false_ne_true (e.symm.trans h))]
        refine wpAny_bind (wpAny_letGo ?_)
        rw [hname]
        exact wpAny_pure ⟨plainId_quiet F.plain_max_loop _, go _ tk _ _ hst' (.inr ⟨b, t, rfl, hm.stay hg⟩) hS' fun x o hbw _ e => hk' x o hbw e⟩
theorem args_maxD (a d : Value) : argsOk "max" ⟨[a], [("default", d)]⟩ := by unfold argsOk; kernel_rfl
theorem tree_kw {E : Value → Shared → Prop} {s : Shared} {id : String} {b : Builtin} {args : List Value} {kw : List (Str × Value)} {Q : Value → Shared → Prop} (hk : builtinKind id = none) (hp : plainId id = true) (hb : entryFor table id = some b) (ha : argsOk id ⟨args, kw⟩)
    (hc : wpAny (model prog w) A.in1 (b ⟨args, kw⟩) (fun fin s' => match fin with
      | .done f => (match (Except.ok f : Result) with | .ok (.ret v) => Q v s' | .ok _ => False | .error e => E e s')
      | .again c' => c'.quiet = true ∧ codeAny (model prog w) A c' (fun r s' => match r with | .ok (.ret v) => Q v s' | .ok _ => False | .error e => E e s') s') E s) :
    wpAny (model prog w) A (call (.builtin id) args kw) Q E s := by
  refine wpAny_call (codeAny_call_builtin hp hb ?_)
  simp only [checkBuiltinCall, hk]
  cases hsig : Manifest.signature? id with
  | none => exact wpAny_pure hc
  | some sig =>
    simp only [argsOk, hsig] at ha
    have h2 : Bind.checkArgs id sig ⟨args, kw⟩ = pure () := ha
    show wpAny _ A.in1 (Bind.checkArgs id sig ⟨args, kw⟩) _ _ s
    rw [h2]
    exact wpAny_pure hc
theorem maxD_list {E : Value → Shared → Prop} {s : Shared} {l : Addr} {xs : Array (Int × Tok)} {d : Value} {Q : Value → Shared → Prop} (hh : A.handled = none) (hl : s.heap.IsList l (intItems xs))
    (h : ∀ v h' tk, OutD (numAt xs) xs.size d v → (∀ b o, s.heap.get? b = some o → h'.get? b = some o) → Q v { s with heap := h', toks := tk }) :
    wpAny (model prog w) A (call (.builtin "max") [.ref l] [("default", d)]) Q E s := by
  have hname : (toString "max" ++ toString ".loop" : String) = "max.loop" := by decide
  refine tree_kw F.kind_max F.plain_max F.entry_max (args_maxD _ _) ?_
  show wpAny _ A.in1 (Builtin.Builtins.bindParams "max" ["key", "default"] 0 ⟨[], [("default", d)]⟩ >>= _) _ _ s
  refine wpAny_bind (wpAny_of_eq (show Builtin.Builtins.bindParams "max" ["key", "default"] 0 ⟨[], [("default", d)]⟩ = pure [none, some d] from rfl) ?_)
  refine wpAny_bind (wpAny_pure ?_)
  refine wpAny_bind (iter_intList hl fun s₂ e st hfp hne => ?_)
  subst e
  refine wpAny_bind (wpAny_newObj_type ?_)
  rw [hname]
  have W := Walks.list (prog := prog) (w := w) (A := A.in1) hh _ l hne (intItems xs)
  have hsz : (intItems xs).size = xs.size := by unfold intItems; exact Array.size_map
  refine wpAny_pure ⟨plainId_quiet F.plain_max_loop _, max_loopD W (num := numAt xs) (fun i v => intItems_at) d (fun hm => Nat.lt_irrefl _ (hfp _ hm)) _ 0 _ #[] _ rfl (Nat.zero_le _) (W.frame _ _ _ st fun b _ o e => Heap.get?_push_of_some _ e) (.inl ⟨rfl, rfl⟩) (Heap.get?_push_size _ rfl) fun v h' tk ho hk => ?_⟩
  rw [hsz] at ho
  refine h v h' tk ho fun b o e => ?_
  have e1 := Heap.lt_size e
  refine hk b o (fun hm => ?_) (fun hm => ?_) (Heap.get?_push_of_some _ (Heap.get?_push_of_some _ e))
  · rw [List.mem_singleton.mp hm] at e1
    exact Nat.lt_irrefl _ e1
  · rw [hm] at e1
    have : s.heap.objs.size ≤ (s.heap.push { cls := .type "list_iterator", data := .fields #[.ref l, .int 0 0] }).objs.size := by rw [Heap.size_push]; omega
    exact absurd e1 (Nat.not_lt.mpr this)
end
/-- the greatest of a list, or what is said for none -/
def mxD (d : Int) : List Int → Int
  | [] => d
  | n :: r => r.foldl max n
theorem foldl_max_le : ∀ (r : List Int) (n : Int), n ≤ r.foldl max n ∧ ∀ x ∈ r, x ≤ r.foldl max n
  | [], n => ⟨Int.le_refl _, fun x hx => by cases hx⟩
  | y :: r, n => by
    obtain ⟨h1, h2⟩ := foldl_max_le r (max n y)
    show n ≤ r.foldl max (max n y) ∧ _
    refine ⟨by omega, fun x hx => ?_⟩
    rcases List.mem_cons.mp hx with rfl | hx
    · show x ≤ r.foldl max (max n x)
      omega
    · exact h2 x hx
theorem foldl_max_mem : ∀ (r : List Int) (n : Int), r.foldl max n ∈ n :: r
  | [], n => List.mem_cons_self
  | y :: r, n => by
    have h := foldl_max_mem r (max n y)
    show r.foldl max (max n y) ∈ _
    rcases List.mem_cons.mp h with h | h
    · rw [h]
      by_cases e : n ≤ y
      · rw [Int.max_eq_right e]; simp
      · rw [Int.max_eq_left (by omega)]; simp
    · exact List.mem_cons_of_mem _ (List.mem_cons_of_mem _ h)
theorem mxD_of {d : Int} {ns : List Int} {M : Int} (h : M ∈ ns) (h2 : ∀ x ∈ ns, x ≤ M) : mxD d ns = M := by
  cases ns with
  | nil => cases h
  | cons n r =>
    obtain ⟨h3, h4⟩ := foldl_max_le r n
    have h5 := foldl_max_mem r n
    have h6 := h2 _ h5
    show r.foldl max n = M
    rcases List.mem_cons.mp h with rfl | h
    · omega
    · have := h4 M h; omega
theorem maxD_raw {prog : Program} {w : World} {A : Around} {E : Value → Shared → Prop} {s : Shared} {l : Addr} {its : List Value} {ns : List Int} {d : Int} {t : Tok} {Q : Value → Shared → Prop} (hh : A.handled = none) (hl : s.heap.IsList l its.toArray) (hi : IntsAre its ns)
    (h : ∀ h' tk t', (∀ b o, s.heap.get? b = some o → h'.get? b = some o) → Q (.int (mxD d ns) t') { s with heap := h', toks := tk }) : wpAny (model prog w) A (call (.builtin "max") [.ref l] [("default", .int d t)]) Q E s := by
  obtain ⟨xs, e⟩ := hi.allInts.items
  have hn : numsOf (intItems xs).toList = ns := by rw [← e]; exact hi.numsOf
  rw [nums_intItems] at hn
  subst hn
  rw [e] at hl
  refine maxD_list hh hl fun v h' tk ho hk => ?_
  rcases ho with ⟨h0, rfl⟩ | ⟨b, t', rfl, ⟨i, hi, rfl⟩, hm2⟩
  · have e0 : xs.toList = [] := List.length_eq_zero_iff.mp (by rw [Array.length_toList]; exact h0)
    have := h h' tk t hk
    rw [e0] at this
    exact this
  · rw [← mxD_of (d := d) (ns := xs.toList.map (·.1)) (M := numAt xs i)]
    · exact h h' tk t' hk
    · rw [numAt_eq]; exact PySem.getD_mem (by rw [List.length_map, Array.length_toList]; omega)
    · intro a ha
      obtain ⟨j, hj, rfl⟩ := mem_getD ha
      rw [List.length_map, Array.length_toList] at hj
      rw [← numAt_eq]
      exact hm2 j (by omega)
def tMaxD (K : PySem.W.Frag) (t : TA) (tk : TA) : TE := fun σ H Q => t σ H fun vs H1 => tk σ H1 fun zs H2 => ∃ (a : Addr) (ns : List Int) (d : Int), vs = [V.ref a] ∧ zs = [V.int d] ∧ SqL K H2 a (ns.map V.int) ∧ Q (.int (mxD d ns)) H2
theorem pe_maxD {X : Cx} {K : PySem.W.Frag} {p pos kpos : Pos} {e e2 : Expr} {t tk : TA} (hc : X.calm = true) (hg : Gl X "max") (hm : X.mg "max" = none) (ha : PA X [e] t) (hk : PK X [⟨some "default", e2, kpos⟩] tk) (hK : X.K = K := by rfl)
    (he : backTo pos (starEach [e] X.env) = (false, eval e X.env) :: backTo pos (starEach [] X.env) := by rfl) (hpl : (backTo pos (starEach [e] X.env)).any (·.1) = false := by rfl) :
    PE X (.Call (.Name "max" p) [e] [⟨some "default", e2, kpos⟩] pos) (tMaxD K t tk) := by
  subst hK
  refine ⟨fun pins s σ H Q I h => ?_⟩
  refine wpAny_Call_Name_kw (ld_blt I hg hm bt_max ?_ (by decide) (by decide))
  refine PyProof.Rows.callWith_kw (thn (ha.run pos pins s σ H _ I h) fun us s1 ⟨vs, H1, I1, r1, q1⟩ => thn (hk.run pos pins s1 σ H1 _ I1 q1) fun ws s2 ⟨zs, H2, I2, r2, q2⟩ => ?_) he hpl
  obtain ⟨a, ns, d, rfl, rfl, hs, q⟩ := q2
  obtain ⟨its, rv, hl, _⟩ := I2.list hs
  rw [Vals.ref1 r1]
  obtain ⟨u, rfl, tt, rfl⟩ := vals1 r2
  exact maxD_raw (I2.ok.hd hc) hl.isList rv.ints fun h' tk t' hk => ⟨.int _, H2, I2.kept hk, ⟨_, rfl⟩, q⟩
end CB

set_option Elab.async false
set_option linter.all false
set_option maxRecDepth 100000
set_option maxHeartbeats 2000000
/-! a tuple times a number, once or more -/
namespace CB
open PySem PySem.Spec PyProof.Rows L2
theorem tuple_mul1 (l : Addr) (items : Array Value) (n : Nat) (dd : Option Addr) (sl : Array (Option Value)) (u : Tok) :
    Meets (Builtin.«tuple.__mul__» ⟨[.ref l, .int 1 u], []⟩) (fun _ R s => s.heap.get? l = some { cls := .type "tuple", dict := dd, data := .seq items n, slots := sl } ∧ R (.ok (.ret (Value.ref l))) s) :=
  .of_wp fun prog w A R s h => by
    obtain ⟨hp, g, d, tk, os⟩ := s
    obtain ⟨hl, h⟩ := h
    have f1 := AutoSeq1.idx_int
    wp_walk using wpAny_loadPart' hl
    exact ⟨_, rfl, h⟩
def rRepT1 (K : PySem.W.Frag) : R2 := fun x y H Q => ∃ l k xs, x = .ref l ∧ y = .int k ∧ SqT K H l xs ∧ xs ≠ [] ∧ 1 ≤ k ∧ k ≤ 1000 ∧ xs.length ≤ 1000 ∧ (k = 1 → Q (.ref l) H) ∧ ∀ p, H p = none → Q (.ref p) (upd H p (.tup (List.replicate k.toNat xs).flatten))
theorem op_repT1 {X : Cx} {K : PySem.W.Frag} (hK : X.K = K := by rfl) : OpR X (binaryOp .Mult) (rRepT1 K) := by
  subst hK
  intro pins s σ H x y v u Q I rx ry h
  obtain ⟨l, k, xs, rfl, rfl, hT, hne, h1, h2, hz, q1, q⟩ := h
  by_cases e : k = 1
  · subst e
    cases rx
    obtain ⟨t, rfl⟩ := ry
    obtain ⟨its, r, ⟨⟨cls, dd, data, sl⟩, ho, hc, n, hd⟩, hs⟩ := I.tuple hT
    simp only at hc hd
    subst hc hd
    exact wpAny_binaryOp_repeat_ref (T := "tuple") (U := "int") (by decide) ⟨_, ho, rfl⟩ (fun s' => typeIs_int s' 1 t) noFill_tuple_mul F.fills_int_mul F.slot_int_rmul repeat_tuple F.slot_int_index.lookup
      (call_meets F.slot_int_rmul (typeIs_int s 1 t) F.entry_int_rmul (F.args_int_rmul_2 _ _) (int_rmul_tuple 1 t l its.toArray n dd sl)
        ⟨ho, rfl, ⟨_, ho, rfl⟩, call_meets F.slot_tuple_mul ⟨_, ho, rfl⟩ F.entry_tuple_mul (F.args_tuple_mul_2 _ _) (tuple_mul1 l its.toArray n dd sl t) ⟨ho, ⟨.ref l, H, I, rfl, q1 rfl⟩⟩⟩)
  · exact op_repT pins s σ H _ _ v u Q I rx ry ⟨l, k, xs, rfl, rfl, hT, hne, by omega, h2, hz, q⟩
/-! ### what was not frozen and stood stays unfrozen, beside the deal -/
structure Nf (F H F' : Hp) : Prop where
  ex : Ex F F'
  nf : ∀ a, F a = none → H a ≠ none → F' a = none
section
variable {d l z : Addr} {F H F1 H1 F2 H2 : Hp} {o : HO}
theorem Wr.alive (W : Wr d l F1 H1) (k : Kp d l H H1) {a : Addr} (h : H a ≠ none) : H1 a ≠ none := by
  obtain ⟨s, n, ls, D⟩ := W.deal
  by_cases e1 : a = d
  · rw [e1, D.hd]; exact fun h => by cases h
  · by_cases e2 : a = l
    · rw [e2, D.hl]; exact fun h => by cases h
    · cases q : H a with
      | none => exact absurd q h
      | some u => rw [k a u e1 e2 q]; exact fun h => by cases h
theorem Nf.refl : Nf F H F := ⟨Evl.Ex.refl _, fun _ e _ => e⟩
theorem Nf.new (h : Nf F H F1) (W : Wr d l F1 H1) (k : Kp d l H H1) (hz : H1 z = none) : Nf F H (upd F1 z o) :=
  ⟨h.ex.trans (Evl.Ex.new (sub_none W.sub hz)), fun a e1 e2 => by
    have ne : a ≠ z := fun e => W.alive k e2 (by rw [e]; exact hz)
    rw [upd_ne ne]
    exact h.nf a e1 e2⟩
theorem Nf.gr (h : Nf F H F1) (W : Wr d l F1 H1) (k : Kp d l H H1) (g : Gr NoS F1 H1 F2 H2) : Nf F H F2 := ⟨h.ex.trans g.fz, fun a e1 e2 => g.nf a (h.nf a e1 e2) (W.alive k e2)⟩
theorem Nf.trans (h : Nf F H F1) (W : Wr d l F1 H1) (k : Kp d l H H1) (g : Nf F1 H1 F2) : Nf F H F2 := ⟨h.ex.trans g.ex, fun a e1 e2 => g.nf a (h.nf a e1 e2) (W.alive k e2)⟩
end
theorem cut_mem {xs : List V} {lo hi : Option Int} {y : V} (h : y ∈ cutV xs lo hi) : y ∈ xs := by
  unfold cutV at h
  exact List.mem_of_mem_drop (List.mem_of_mem_take h)
theorem cut_len (xs : List V) (lo hi : Option Int) : (cutV xs lo hi).length ≤ xs.length := by
  unfold cutV
  rw [List.length_take, List.length_drop]
  omega
/-! ### rows made bare -/
/-- the common part of a row -/
def gcF (g : Nat) (row : List Int) : Nat := row.foldl (fun g x => Nat.gcd g x.natAbs) g
def gc (row : List Int) : Nat := gcF 0 row
/-- the last number that is not 0, or 0 -/
def ls : List Int → Int
  | [] => 0
  | x :: r => if ls r = 0 then x else ls r
/-- what a row is divided by -/
def sc (row : List Int) : Int := if ls row < 0 then 0 - (gc row : Int) else gc row
def bareL (row : List Int) : List Int := if gc row = 0 then row else row.map fun x => x.fdiv (sc row)
theorem gcF_snoc (g : Nat) (row : List Int) (x : Int) : gcF g (row ++ [x]) = Nat.gcd (gcF g row) x.natAbs := by
  unfold gcF
  rw [List.foldl_append]
  rfl
theorem gcF_dvd : ∀ (row : List Int) (g : Nat), gcF g row ∣ g ∧ ∀ x ∈ row, gcF g row ∣ x.natAbs
  | [], g => ⟨Nat.dvd_refl _, fun x hx => by cases hx⟩
  | y :: r, g => by
    obtain ⟨h1, h2⟩ := gcF_dvd r (Nat.gcd g y.natAbs)
    refine ⟨Nat.dvd_trans h1 (Nat.gcd_dvd_left _ _), fun x hx => ?_⟩
    rcases List.mem_cons.mp hx with rfl | hx
    · exact Nat.dvd_trans h1 (Nat.gcd_dvd_right _ _)
    · exact h2 x hx
theorem gcF_mul (c : Int) : ∀ (row : List Int) (g : Nat), gcF (c.natAbs * g) (row.map fun x => c * x) = c.natAbs * gcF g row
  | [], g => rfl
  | y :: r, g => by
    show gcF (Nat.gcd (c.natAbs * g) (c * y).natAbs) (r.map fun x => c * x) = c.natAbs * gcF (Nat.gcd g y.natAbs) r
    rw [Int.natAbs_mul, Nat.gcd_mul_left, gcF_mul c r]
theorem gc_mul (c : Int) (row : List Int) : gc (row.map fun x => c * x) = c.natAbs * gc row := by
  have := gcF_mul c row 0
  rw [Nat.mul_zero] at this
  exact this
theorem gc_zero {row : List Int} : gc row = 0 → ∀ x ∈ row, x = 0 := fun h x hx => by
  have := (gcF_dvd row 0).2 x hx
  unfold gc at h
  rw [h, Nat.zero_dvd] at this
  omega
theorem ls_mul {c : Int} (hc : c ≠ 0) : ∀ row : List Int, ls (row.map fun x => c * x) = c * ls row
  | [] => by simp [ls]
  | x :: r => by
    show (if ls (r.map fun x => c * x) = 0 then c * x else ls (r.map fun x => c * x)) = c * (if ls r = 0 then x else ls r)
    rw [ls_mul hc r]
    by_cases h : ls r = 0
    · rw [if_pos h, if_pos (by rw [h, Int.mul_zero])]
    · rw [if_neg h, if_neg (Int.mul_ne_zero hc h)]
theorem ls_mem : ∀ {row : List Int}, ls row ≠ 0 → ls row ∈ row
  | [], h => absurd rfl h
  | x :: r, h => by
    show (if ls r = 0 then x else ls r) ∈ _
    by_cases e : ls r = 0
    · rw [if_pos e]; exact List.mem_cons_self
    · rw [if_neg e]; exact List.mem_cons_of_mem _ (ls_mem e)
theorem ls_zero : ∀ {row : List Int}, ls row = 0 → ∀ x ∈ row, x = 0
  | [], _, x, hx => by cases hx
  | y :: r, h, x, hx => by
    have h' : (if ls r = 0 then y else ls r) = 0 := h
    by_cases e : ls r = 0
    · rw [if_pos e] at h'
      rcases List.mem_cons.mp hx with rfl | hx
      · exact h'
      · exact ls_zero e x hx
    · rw [if_neg e] at h'
      exact absurd h' e
theorem ls_null : ∀ {row : List Int}, (∀ x ∈ row, x = 0) → ls row = 0
  | [], _ => rfl
  | y :: r, h => by
    show (if ls r = 0 then y else ls r) = 0
    rw [if_pos (ls_null fun x hx => h x (List.mem_cons_of_mem _ hx))]
    exact h y List.mem_cons_self
theorem gc_pos {row : List Int} (h : ls row ≠ 0) : gc row ≠ 0 := fun e => h (gc_zero e _ (ls_mem h))
theorem sc_ne {row : List Int} (h : gc row ≠ 0) : sc row ≠ 0 := by
  unfold sc
  split <;> omega
theorem sc_abs {row : List Int} : (sc row).natAbs = gc row := by
  unfold sc
  split <;> omega
theorem sc_mul {row : List Int} (h : gc row ≠ 0) {x : Int} (hx : x ∈ row) : x = sc row * x.fdiv (sc row) := by
  have hd : sc row ∣ x := Int.natAbs_dvd_natAbs.mp (by rw [sc_abs]; exact (gcF_dvd row 0).2 x hx)
  exact (Int.mul_fdiv_cancel' hd).symm
theorem bare_mul {row : List Int} (h : gc row ≠ 0) : row = (bareL row).map fun x => sc row * x := by
  unfold bareL
  rw [if_neg h, List.map_map]
  conv => lhs; rw [← List.map_id row]
  exact List.map_congr_left fun x hx => sc_mul h hx
theorem bare_gc {row : List Int} (h : gc row ≠ 0) : gc (bareL row) = 1 := by
  have e := congrArg gc (bare_mul h)
  rw [gc_mul, sc_abs] at e
  exact Nat.eq_of_mul_eq_mul_left (Nat.pos_of_ne_zero h) (by omega)
theorem bare_ls {row : List Int} (h : gc row ≠ 0) : ¬ ls (bareL row) < 0 := fun hn => by
  have e := congrArg ls (bare_mul h)
  rw [ls_mul (sc_ne h)] at e
  by_cases hs : ls row < 0
  · have h2 : sc row = 0 - (gc row : Int) := if_pos hs
    have h3 : sc row < 0 := by omega
    have := Int.mul_pos_of_neg_of_neg h3 hn
    omega
  · have h2 : sc row = (gc row : Int) := if_neg hs
    have h3 : 0 < sc row := by omega
    have := Int.mul_neg_of_pos_of_neg h3 hn
    omega
theorem bare_bare (row : List Int) : bareL (bareL row) = bareL row := by
  by_cases h : gc row = 0
  · unfold bareL
    rw [if_pos h, if_pos h]
  · have h1 := bare_gc h
    have h2 : sc (bareL row) = 1 := by
      unfold sc
      rw [if_neg (bare_ls h), h1]
      rfl
    have h3 : bareL (bareL row) = (bareL row).map fun x => x.fdiv (sc (bareL row)) := if_neg (by omega)
    rw [h3, h2]
    conv => rhs; rw [← List.map_id (bareL row)]
    exact List.map_congr_left fun x _ => Int.fdiv_one x
/-- the place of the last number that is not 0 -/
def IsLd (row : List Int) (k : Int) : Prop := (k = -1 ∧ ∀ x ∈ row, x = 0) ∨ ∃ (n : Nat) (x : Int), k = n ∧ row[n]? = some x ∧ x ≠ 0 ∧ ∀ j y, n < j → row[j]? = some y → y = 0
theorem IsLd.uniq {row : List Int} {k k' : Int} (h : IsLd row k) (h' : IsLd row k') : k = k' := by
  rcases h with ⟨rfl, hz⟩ | ⟨n, x, rfl, e, ne, hz⟩
  · rcases h' with ⟨rfl, _⟩ | ⟨m, y, rfl, e', ne', _⟩
    · rfl
    · exact absurd (hz y (List.mem_of_getElem? e')) ne'
  · rcases h' with ⟨rfl, hz'⟩ | ⟨m, y, rfl, e', ne', hz'⟩
    · exact absurd (hz' x (List.mem_of_getElem? e)) ne
    · rcases Nat.lt_trichotomy n m with h | h | h
      · exact absurd (hz m y h e') ne'
      · rw [h]
      · exact absurd (hz' n x h e) ne
theorem IsLd.bare {row : List Int} {k : Int} (h : IsLd (bareL row) k) : IsLd row k := by
  by_cases hg : gc row = 0
  · unfold bareL at h
    rwa [if_pos hg] at h
  · have e := bare_mul hg
    have hs := sc_ne hg
    have get : ∀ j, row[j]? = ((bareL row)[j]?).map fun x => sc row * x := fun j => by
      rw [← List.getElem?_map, ← e]
    rcases h with ⟨rfl, hz⟩ | ⟨n, x, rfl, ex, ne, hz⟩
    · refine .inl ⟨rfl, fun x hx => ?_⟩
      rw [e] at hx
      obtain ⟨y, hy, rfl⟩ := List.mem_map.mp hx
      rw [hz y hy, Int.mul_zero]
    · refine .inr ⟨n, sc row * x, rfl, by rw [get, ex]; rfl, Int.mul_ne_zero hs ne, fun j y hj ey => ?_⟩
      rw [get] at ey
      obtain ⟨z, ez, rfl⟩ := Option.map_eq_some_iff.mp ey
      rw [hz j z hj ez, Int.mul_zero]
theorem ls_get : ∀ {row : List Int} {n : Nat} {x : Int}, row[n]? = some x → x ≠ 0 → (∀ j y, n < j → row[j]? = some y → y = 0) → ls row = x
  | [], _, _, e, _, _ => by simp at e
  | y :: r, 0, x, e, ne, hz => by
    have e' : y = x := by simpa using e
    subst e'
    show (if ls r = 0 then y else ls r) = y
    rw [if_pos]
    exact ls_null fun z hz' => by
      obtain ⟨j, hj, rfl⟩ := List.mem_iff_getElem.mp hz'
      exact hz (j + 1) _ (by omega) (by rw [List.getElem?_cons_succ]; exact List.getElem?_eq_getElem hj)
  | y :: r, n + 1, x, e, ne, hz => by
    have ih := ls_get (row := r) (n := n) (by simpa using e) ne fun j z hj ez => hz (j + 1) z (by omega) (by simpa using ez)
    show (if ls r = 0 then y else ls r) = x
    rw [ih, if_neg ne]
/-- the last of those that are not 0 -/
theorem ls_filter : ∀ row : List Int, (row.filter fun x => decide (x ≠ 0)).getLast? = if ls row = 0 then none else some (ls row)
  | [] => rfl
  | y :: r => by
    have ih := ls_filter r
    show ((y :: r).filter fun x => decide (x ≠ 0)).getLast? = if (if ls r = 0 then y else ls r) = 0 then none else some (if ls r = 0 then y else ls r)
    by_cases h : ls r = 0
    · rw [if_pos h] at ih ⊢
      have e0 : (r.filter fun x => decide (x ≠ 0)) = [] := List.getLast?_eq_none_iff.mp ih
      by_cases hy : y = 0
      · rw [List.filter_cons_of_neg (by simp [hy]), e0, if_pos hy]
        rfl
      · rw [List.filter_cons_of_pos (by simp [hy]), e0, if_neg hy]
        rfl
    · rw [if_neg h] at ih ⊢
      rw [if_neg h]
      by_cases hy : y = 0
      · rw [List.filter_cons_of_neg (by simp [hy]), ih]
      · rw [List.filter_cons_of_pos (by simp [hy]), List.getLast?_cons, ih]
        rfl
end CB

set_option Elab.async false
set_option linter.all false
set_option maxRecDepth 100000
set_option maxHeartbeats 2000000
namespace CB
open PySem PySem.Spec PyProof.Rows L2
/-! ### lists whose things are told one by one -/
inductive F2 {β : Type} (R : V → β → Prop) : List V → List β → Prop
  | nil : F2 R [] []
  | cons {v : V} {b : β} {vs : List V} {bs : List β} : R v b → F2 R vs bs → F2 R (v :: vs) (b :: bs)
section
variable {β : Type} {R R' : V → β → Prop}
theorem F2.length : ∀ {vs : List V} {bs : List β}, F2 R vs bs → vs.length = bs.length
  | _, _, .nil => rfl
  | _, _, .cons _ h => by rw [List.length_cons, List.length_cons, F2.length h]
theorem F2.mono (h : ∀ v b, R v b → R' v b) : ∀ {vs : List V} {bs : List β}, F2 R vs bs → F2 R' vs bs
  | _, _, .nil => .nil
  | _, _, .cons a t => .cons (h _ _ a) (F2.mono h t)
theorem F2.append : ∀ {vs ws : List V} {bs cs : List β}, F2 R vs bs → F2 R ws cs → F2 R (vs ++ ws) (bs ++ cs)
  | _, _, _, _, .nil, h => h
  | _, _, _, _, .cons a t, h => .cons a (F2.append t h)
theorem F2.snoc {vs : List V} {v : V} {bs : List β} {b : β} (h : F2 R vs bs) (k : R v b) : F2 R (vs ++ [v]) (bs ++ [b]) := h.append (.cons k .nil)
theorem F2.get : ∀ {vs : List V} {bs : List β} {i : Nat} {v : V}, F2 R vs bs → vs[i]? = some v → ∃ b, bs[i]? = some b ∧ R v b
  | _, _, _, _, .nil, e => by simp at e
  | _, _, 0, _, .cons h _, e => by simp at e; subst e; exact ⟨_, rfl, h⟩
  | _, _, i + 1, _, .cons _ h, e => by
    obtain ⟨d, e1, e2⟩ := F2.get (i := i) h (by simpa using e)
    exact ⟨d, by simpa using e1, e2⟩
theorem F2.get' : ∀ {vs : List V} {bs : List β} {i : Nat} {b : β}, F2 R vs bs → bs[i]? = some b → ∃ v, vs[i]? = some v ∧ R v b
  | _, _, _, _, .nil, e => by simp at e
  | _, _, 0, _, .cons h _, e => by simp at e; subst e; exact ⟨_, rfl, h⟩
  | _, _, i + 1, _, .cons _ h, e => by
    obtain ⟨d, e1, e2⟩ := F2.get' (i := i) h (by simpa using e)
    exact ⟨d, by simpa using e1, e2⟩
theorem F2.pairs : ∀ {vs : List V} {bs : List β}, F2 R vs bs → ∀ q ∈ vs.zip bs, R q.1 q.2
  | _, _, .nil, q, h => by simp at h
  | _, _, .cons a t, q, h => by
    rw [List.zip_cons_cons] at h
    rcases List.mem_cons.mp h with rfl | h
    · exact a
    · exact F2.pairs t q h
theorem F2.of_pairs : ∀ (l : List (V × β)), (∀ q ∈ l, R q.1 q.2) → F2 R (l.map Prod.fst) (l.map Prod.snd)
  | [], _ => .nil
  | q :: r, h => .cons (h q List.mem_cons_self) (F2.of_pairs r fun x hx => h x (List.mem_cons_of_mem _ hx))
theorem F2.dp {K : PySem.W.Frag} {F : Hp} {enc : β → PyData} (h : ∀ v b, R v b → Dp K F v (enc b)) : ∀ {vs : List V} {bs : List β}, F2 R vs bs → DpAll K F vs (bs.map enc)
  | _, _, .nil => .nil
  | _, _, .cons a t => .cons (h _ _ a) (F2.dp h t)
/-- the values behind a sort by data -/
abbrev srt (xs : List V) (ds : List PyData) : List V := ((xs.zip ds).mergeSort (PySem.W.dataLe false Prod.snd)).map Prod.fst
theorem F2.sort {enc : β → PyData} {vs : List V} {bs : List β} (h : F2 R vs bs) : F2 R (srt vs (bs.map enc)) (bs.mergeSort (PySem.W.dataLe false enc)) := by
  have e1 : vs.zip (bs.map enc) = (vs.zip bs).map fun q => (q.1, enc q.2) := by
    rw [List.zip_map_right]
    rfl
  have e2 : (vs.zip bs).map Prod.snd = bs := List.map_snd_zip (by rw [h.length]; exact Nat.le_refl _)
  have m1 := PySem.W.sort_maps (l := vs.zip bs) (r := PySem.W.dataLe false fun q : V × β => enc q.2) (s := PySem.W.dataLe false Prod.snd) (fun q : V × β => (q.1, enc q.2)) (fun _ _ _ _ => rfl)
  have m2 := PySem.W.sort_maps (l := vs.zip bs) (r := PySem.W.dataLe false fun q : V × β => enc q.2) (s := PySem.W.dataLe false enc) Prod.snd (fun _ _ _ _ => rfl)
  rw [e2] at m2
  unfold srt
  rw [e1, ← m1, ← m2, List.map_map]
  exact F2.of_pairs _ fun q hq => h.pairs q ((List.mergeSort_perm _ _).mem_iff.mp hq)
end
theorem cr_sortP {X : Cx} {K : PySem.W.Frag} (hu : X.A.units + 64 < cLine) (hK : X.K = K := by rfl) : CallR X (.builtin "sorted") (fun vs H Q => ∃ (a : Addr) (xs : List V) (ds : List PyData), vs = [V.ref a] ∧ SqL K H a xs ∧ DpAll K H xs ds ∧ PySem.W.AllAlike ds ∧ PySem.W.Sortable ds ∧ (∀ d ∈ ds, d.depth ≤ 60) ∧
    ∀ p, H p = none → Q (.ref p) (upd H p (.lst (srt xs ds)))) := by
  subst hK
  intro pins s σ H vs us Q I r h
  obtain ⟨a, xs, ds, rfl, hs, hd, hal, hsr, hdp, q⟩ := h
  obtain ⟨its, rv, hl, hz⟩ := I.list hs
  rw [Vals.ref1 r]
  have hlen := DpAll.length hd
  obtain ⟨e1, e2⟩ := each_zip I rv hd
  have esnd := zip_snd hlen
  refine PySem.W.sorted_data (enc := Prod.snd) hl.isList e1 e2 (by rw [esnd]; exact hal) (by rw [esnd]; exact hsr) (by rw [List.length_zip]; omega) (fun p hp => ?_) fun out hout he => ?_
  · have := hdp p.2 (by rw [← esnd]; exact List.mem_map_of_mem hp)
    omega
  · obtain ⟨e, hat⟩ := sortedAll_at s.heap its out.toArray
    have hv := vals_each he
    refine ⟨.ref (s.heap.objs.size + 1), upd H (s.heap.objs.size + 1) (.lst _), I.laid (t' := s.toks) (fun b u eb => sortedAll_old eb) (by omega) (show ObjOk X.prog X.w _ _ _ (.lst _) from ⟨?_, out, e, hv, ?_⟩), rfl, q _ (I.hok.fresh (by omega))⟩
    · rw [List.length_map, List.length_mergeSort, List.length_zip]
      omega
    · exact hat
/-! ### tracked tuples of whole numbers -/
def Tr (F : Hp) (v : V) (p : List Int) : Prop := ∃ a, v = .ref a ∧ F a = some (.tup (p.map V.int))
/-- a pair of a degree and a tracked tuple -/
def Pr (F : Hp) (v : V) (p : List Int) : Prop := ∃ t a, v = .ref t ∧ F t = some (.tup [.int p.sum, .ref a]) ∧ F a = some (.tup (p.map V.int))
section
variable {K : PySem.W.Frag} {F F' : Hp} {v : V} {p : List Int}
theorem Tr.ex (e : Ex F F') (h : Tr F v p) : Tr F' v p := by
  obtain ⟨a, rfl, h⟩ := h
  exact ⟨a, rfl, e _ _ h⟩
theorem Pr.ex (e : Ex F F') (h : Pr F v p) : Pr F' v p := by
  obtain ⟨t, a, rfl, h1, h2⟩ := h
  exact ⟨t, a, rfl, e _ _ h1, e _ _ h2⟩
theorem Tr.dp (h : Tr F v p) : Dp K F v (ti p) := by
  obtain ⟨a, rfl, h⟩ := h
  exact Dp.of_ti (SqT.of h)
theorem Pr.dp (h : Pr F v p) : Dp K F v (encP p) := by
  obtain ⟨t, a, rfl, h1, h2⟩ := h
  exact .tup (SqT.of h1) (.cons (.int _) (.cons (Dp.of_ti (SqT.of h2)) .nil))
abbrev TrAll (F : Hp) : List V → List (List Int) → Prop := F2 (Tr F)
theorem TrAll.ex (e : Ex F F') {vs : List V} {r : List (List Int)} (h : TrAll F vs r) : TrAll F' vs r := F2.mono (fun _ _ => Tr.ex e) h
theorem PrAll.ex (e : Ex F F') {vs : List V} {r : List (List Int)} (h : F2 (Pr F) vs r) : F2 (Pr F') vs r := F2.mono (fun _ _ => Pr.ex e) h
theorem TrAll.dp {vs : List V} {r : List (List Int)} (h : TrAll F vs r) : DpAll K F vs (r.map ti) := F2.dp (enc := ti) (fun _ _ h => Tr.dp h) h
end
/-- the promise: a new list of tracked tuples -/
def sp_productsT : Sp := fun vs H Q _ => ∃ (n : Nat) (d : Int) (F : Hp), vs = [.int (n : Int), .int d] ∧ Ex F H ∧ n ≤ 6 ∧ 0 ≤ d ∧ d ≤ 6 ∧
  ∀ p xs F' H', H p = none → Gr NoS F H F' H' → F' p = none → H' p = some (.lst xs) → TrAll F' xs (prods n d) → Q (.ref p) H'
end CB

set_option Elab.async false
set_option linter.all false
set_option maxRecDepth 100000
set_option maxHeartbeats 2000000
namespace CB
open PySem PySem.Spec PyProof.Rows L2
/-! ### products: which they are, each once -/
theorem snoc_inj {p q : List Int} {x y : Int} (h : p ++ [x] = q ++ [y]) : p = q ∧ x = y := by
  have := List.append_inj' h rfl
  exact ⟨this.1, by simpa using this.2⟩
theorem raw_nodup (d : Int) : ∀ n : Nat, (raw d n).Nodup
  | 0 => by
    show [([] : List Int)].Nodup
    simp
  | n + 1 => by
    show ((raw d n).flatMap (ext d)).Nodup
    unfold List.Nodup
    rw [List.pairwise_flatMap]
    refine ⟨fun p _ => ?_, (raw_nodup d n).imp fun {p q} hne x hx y hy e => ?_⟩
    · unfold ext
      rw [List.pairwise_map]
      exact List.nodup_range.imp fun {a b} hab e => hab (by have := (snoc_inj e).2; omega)
    · obtain ⟨a, rfl, _⟩ := ext_mem hx
      obtain ⟨b, rfl, _⟩ := ext_mem hy
      exact hne (snoc_inj e).1
theorem raw_of {d : Int} : ∀ (n : Nat) (p : List Int), p.length = n → (∀ x ∈ p, 0 ≤ x) → p.sum ≤ d → p ∈ raw d n
  | 0, p, hl, _, _ => by
    have : p = [] := List.length_eq_zero_iff.mp hl
    subst this
    exact List.mem_singleton.mpr rfl
  | n + 1, p, hl, hx, hs => by
    have hne : p ≠ [] := fun e => by rw [e] at hl; simp at hl
    have e : p = p.dropLast ++ [p.getLast hne] := (List.dropLast_concat_getLast hne).symm
    have hlast : 0 ≤ p.getLast hne := hx _ (List.getLast_mem hne)
    have hsum : p.sum = p.dropLast.sum + p.getLast hne := by
      conv => lhs; rw [e]
      exact sum_snoc _ _
    have hq := raw_of (d := d) n p.dropLast (by rw [List.length_dropLast, hl]; rfl) (fun x h => hx x (List.dropLast_subset _ h)) (by omega)
    show p ∈ (raw d n).flatMap (ext d)
    refine List.mem_flatMap.mpr ⟨p.dropLast, hq, ?_⟩
    unfold ext
    refine List.mem_map.mpr ⟨(p.getLast hne).toNat, List.mem_range.mpr (by omega), ?_⟩
    rw [Int.toNat_of_nonneg hlast]
    exact e.symm
theorem prods_nodup (n : Nat) (d : Int) : (prods n d).Nodup := (List.mergeSort_perm _ _).nodup_iff.mpr (raw_nodup d n)
theorem prods_of {n : Nat} {d : Int} {p : List Int} (hl : p.length = n) (hx : ∀ x ∈ p, 0 ≤ x) (hs : p.sum ≤ d) : p ∈ prods n d := prods_mem.mpr (raw_of n p hl hx hs)
section
variable {s n : Nat} {d : Int} {p o : List Int}
theorem sum_split (p : List Int) (s : Nat) : p.sum = (p.take s).sum + (p.drop s).sum := by
  conv => lhs; rw [← List.take_append_drop s p]
  exact List.sum_append
theorem take_prods (hd : 0 ≤ d) (hs : s ≤ n) (h : p ∈ prods n d) : p.take s ∈ prods s d := by
  obtain ⟨h1, h2, h3, h4⟩ := prods_ok hd h
  refine prods_of (by rw [List.length_take]; omega) (fun x hx => h4 x (List.mem_of_mem_take hx)) ?_
  have e := sum_split p s
  have := sum_nonneg (p := p.drop s) fun x hx => h4 x (List.mem_of_mem_drop hx)
  omega
theorem join_prods (hd : 0 ≤ d) (hs : s ≤ n) (h : p ∈ prods n d) (ho : o ∈ prods s d) (hle : o.sum ≤ (p.take s).sum) : o ++ p.drop s ∈ prods n d := by
  obtain ⟨h1, h2, h3, h4⟩ := prods_ok hd h
  obtain ⟨o1, o2, o3, o4⟩ := prods_ok hd ho
  refine prods_of (by rw [List.length_append, List.length_drop]; omega) (fun x hx => ?_) ?_
  · rcases List.mem_append.mp hx with hx | hx
    · exact o4 x hx
    · exact h4 x (List.mem_of_mem_drop hx)
  · rw [List.sum_append]
    have e := sum_split p s
    omega
end
/-! ### dicts by tuples of numbers -/
def ky (p : List Int) : List Key := p.map Sum.inl
theorem ky_v (p : List Int) : (ky p).map kV = p.map V.int := by
  unfold ky
  rw [List.map_map]
  rfl
theorem ky_inj {p q : List Int} (h : ky p = ky q) : p = q := by
  unfold ky at h
  exact (List.map_inj_right fun _ _ e => Sum.inl.inj e).mp h
theorem ky_iff {p q : List Int} : ky p = ky q ↔ p = q := ⟨ky_inj, fun e => by rw [e]⟩
/-- the places of things -/
structure IsPl (P : List (List Int)) (kvs : List (List Key × V)) : Prop where
  len : kvs.length = P.length
  at_ : ∀ (i : Nat) (p : List Int), P[i]? = some p → valV kvs (ky p) = some (.int (i : Int))
  no : ∀ p : List Int, p ∉ P → valV kvs (ky p) = none
theorem IsPl.nil : IsPl [] [] := ⟨rfl, fun i p e => by simp at e, fun p _ => rfl⟩
theorem nodup_take {P : List (List Int)} (hn : P.Nodup) {j : Nat} {p : List Int} (e : P[j]? = some p) : p ∉ P.take j := fun h => by
  obtain ⟨i, hi, e2⟩ := List.mem_iff_getElem.mp h
  rw [List.length_take] at hi
  have hj := (List.getElem?_eq_some_iff.mp e).1
  have e3 : P[i]? = some p := by
    rw [List.getElem_take] at e2
    rw [List.getElem?_eq_getElem (by omega), e2]
  have := (List.getElem?_inj (by omega : i < P.length) hn).mp (e3.trans e.symm)
  omega
theorem IsPl.snoc {P : List (List Int)} {kvs : List (List Key × V)} {j : Nat} {p : List Int} (h : IsPl (P.take j) kvs) (hn : P.Nodup) (e : P[j]? = some p) : IsPl (P.take (j + 1)) (putK kvs (ky p) (.int (kvs.length : Int))) := by
  have hp := nodup_take hn e
  have hj := (List.getElem?_eq_some_iff.mp e).1
  have hlj : (P.take j).length = j := by rw [List.length_take]; omega
  have et : P.take (j + 1) = P.take j ++ [p] := by rw [List.take_add_one, e]; rfl
  have hno := h.no p hp
  refine ⟨?_, fun i q eq => ?_, fun q hq => ?_⟩
  · rw [putK_new _ hno, List.length_append, h.len, et, List.length_append]
    rfl
  · rw [valV_put]
    rw [et] at eq
    by_cases hi : i < j
    · rw [List.getElem?_append_left (by omega)] at eq
      have hne : q ≠ p := fun e2 => hp (by rw [← e2]; exact List.mem_of_getElem? eq)
      rw [if_neg (fun e3 => hne (ky_inj e3))]
      exact h.at_ i q eq
    · rw [List.getElem?_append_right (by omega)] at eq
      have hi2 : i = j := by
        have := (List.getElem?_eq_some_iff.mp eq).1
        simp at this
        omega
      subst hi2
      rw [hlj, Nat.sub_self] at eq
      have : p = q := by simpa using eq
      subst this
      rw [if_pos rfl, h.len, hlj]
  · rw [et] at hq
    have h1 : q ∉ P.take j := fun h2 => hq (List.mem_append_left _ h2)
    have h2 : q ≠ p := fun h3 => hq (List.mem_append_right _ (by rw [h3]; exact List.mem_singleton.mpr rfl))
    rw [valV_put, if_neg (fun e3 => h2 (ky_inj e3))]
    exact h.no q h1
/-! ### maps of calls -/
section
variable (s n : Nat) (d : Int)
/-- what stands at q in the row of p, when the first t inner products are through -/
def cEnt (p : List Int) (Mr : List Int) (t : Nat) (q : List Int) : Int := if q.drop s = p.drop s ∧ (prods s d).idxOf (q.take s) < t then Mr.getD ((prods s d).idxOf (q.take s)) 0 else 0
def cRow (p : List Int) (Mr : List Int) (t : Nat) : List Int := (prods n d).map (cEnt s d p Mr t)
def cMap (M : List (List Int)) : List (List Int) := (prods n d).map fun p => cRow s n d p (M.getD ((prods s d).idxOf (p.take s)) []) (prods s d).length
end
section
variable {s n t : Nat} {d : Int} {p q o Mr : List Int} {x : Int}
theorem idx_of {P : List (List Int)} (hn : P.Nodup) {i : Nat} {p : List Int} (e : P[i]? = some p) : P.idxOf p = i := by
  obtain ⟨hi, rfl⟩ := List.getElem?_eq_some_iff.mp e
  exact hn.idxOf_getElem i hi
theorem at_idx {P : List (List Int)} {p : List Int} (h : p ∈ P) : P[P.idxOf p]? = some p := by
  rw [List.getElem?_eq_getElem (List.idxOf_lt_length_of_mem h), List.getElem_idxOf (List.idxOf_lt_length_of_mem h)]
theorem cEnt_same (hq : q ∈ prods n d) (hd : 0 ≤ d) (hs : s ≤ n) (eo : (prods s d)[t]? = some o) (hne : q ≠ o ++ p.drop s) : cEnt s d p Mr (t + 1) q = cEnt s d p Mr t q := by
  unfold cEnt
  by_cases h1 : q.drop s = p.drop s
  · by_cases h2 : (prods s d).idxOf (q.take s) < t
    · rw [if_pos ⟨h1, by omega⟩, if_pos ⟨h1, h2⟩]
    · rw [if_neg (show ¬ (q.drop s = p.drop s ∧ (prods s d).idxOf (q.take s) < t) from fun h => h2 h.2), if_neg]
      rintro ⟨_, h3⟩
      have h4 : (prods s d).idxOf (q.take s) = t := by omega
      have h5 := at_idx (take_prods hd hs hq)
      rw [h4, eo] at h5
      cases h5
      exact hne (by rw [← h1, List.take_append_drop])
  · rw [if_neg (fun h => h1 h.1), if_neg (fun h => h1 h.1)]
theorem cEnt_new (hd : 0 ≤ d) (eo : (prods s d)[t]? = some o) (ex : Mr[t]? = some x) (e : q = o ++ p.drop s) : cEnt s d p Mr (t + 1) q = x := by
  have ho := prods_ok hd (List.mem_of_getElem? eo)
  have e1 : q.take s = o := by rw [e, ← ho.1, List.take_left]
  have e2 : q.drop s = p.drop s := by rw [e]; exact List.drop_left' ho.1
  have hi := idx_of (prods_nodup s d) eo
  unfold cEnt
  rw [e1, hi, if_pos ⟨e2, by omega⟩, getD_of ex]
theorem cRow_zero : cRow s n d p Mr 0 = List.replicate (prods n d).length 0 := by
  unfold cRow
  have : (prods n d).map (cEnt s d p Mr 0) = (prods n d).map fun _ => (0 : Int) := List.map_congr_left fun q _ => if_neg (fun h => by omega)
  rw [this, List.map_const']
theorem cRow_len : (cRow s n d p Mr t).length = (prods n d).length := List.length_map _
/-- a number that is 0 changes nothing -/
theorem cRow_skip (hd : 0 ≤ d) (hs : s ≤ n) (eo : (prods s d)[t]? = some o) (ex : Mr[t]? = some 0) : cRow s n d p Mr (t + 1) = cRow s n d p Mr t := by
  refine List.map_congr_left fun q hq => ?_
  by_cases e : q = o ++ p.drop s
  · rw [cEnt_new hd eo ex e]
    have ho := prods_ok hd (List.mem_of_getElem? eo)
    have e1 : q.take s = o := by rw [e, ← ho.1, List.take_left]
    have hi := idx_of (prods_nodup s d) eo
    unfold cEnt
    rw [e1, hi, if_neg (fun h => by omega)]
  · exact cEnt_same hq hd hs eo e
theorem cRow_set {k : Nat} (hd : 0 ≤ d) (hs : s ≤ n) (eo : (prods s d)[t]? = some o) (ex : Mr[t]? = some x) (ek : (prods n d)[k]? = some (o ++ p.drop s)) : (cRow s n d p Mr t).set k x = cRow s n d p Mr (t + 1) := by
  apply List.ext_getElem?
  intro j
  by_cases hj : j < (prods n d).length
  · have eq : (prods n d)[j]? = some (prods n d)[j] := List.getElem?_eq_getElem hj
    have r : (cRow s n d p Mr (t + 1))[j]? = some (cEnt s d p Mr (t + 1) (prods n d)[j]) := by
      unfold cRow
      rw [List.getElem?_map, eq]
      rfl
    rw [r]
    by_cases e : k = j
    · subst e
      rw [List.getElem?_set_self (by rw [cRow_len]; exact hj)]
      rw [eq] at ek
      rw [cEnt_new hd eo ex (Option.some.inj ek)]
    · rw [List.getElem?_set_ne e]
      unfold cRow
      rw [List.getElem?_map, eq]
      show some (cEnt s d p Mr t (prods n d)[j]) = _
      rw [cEnt_same (List.getElem_mem hj) hd hs eo]
      intro e2
      rw [← e2] at ek
      exact e ((List.getElem?_inj hj (prods_nodup n d)).mp (eq.trans ek.symm)).symm
  · rw [List.getElem?_eq_none (by rw [List.length_set, cRow_len]; omega), List.getElem?_eq_none (by rw [cRow_len]; omega)]
theorem cMap_same (hd : 0 ≤ d) (hs : s ≤ n) : cMap s n d (sm (prods s d).length) = sm (prods n d).length := by
  apply List.ext_getElem?
  intro k
  by_cases hk : k < (prods n d).length
  · have ek : (prods n d)[k]? = some (prods n d)[k] := List.getElem?_eq_getElem hk
    have hpk := List.getElem_mem hk
    unfold cMap
    have esm : (sm (prods n d).length)[k]? = some (sg (prods n d).length k) := by
      unfold sm
      rw [List.getElem?_map, List.getElem?_range hk]
      rfl
    rw [List.getElem?_map, ek, esm]
    show some (cRow s n d _ _ _) = _
    congr 1
    have hi := List.idxOf_lt_length_of_mem (take_prods hd hs hpk)
    rw [sm_row hi]
    apply List.ext_getElem?
    intro j
    by_cases hj : j < (prods n d).length
    · have ej : (prods n d)[j]? = some (prods n d)[j] := List.getElem?_eq_getElem hj
      have hqj := List.getElem_mem hj
      have hi2 := List.idxOf_lt_length_of_mem (take_prods hd hs hqj)
      unfold cRow
      rw [List.getElem?_map, ej]
      unfold sg
      rw [List.getElem?_map, List.getElem?_range hj]
      show some (cEnt s d _ (sg (prods s d).length _) _ _) = some _
      congr 1
      show _ = if j = k then (1 : Int) else 0
      unfold cEnt
      by_cases e : j = k
      · subst e
        rw [if_pos ⟨rfl, hi⟩, sg_get hi, if_pos rfl, if_pos rfl]
      · rw [if_neg e]
        by_cases h1 : (prods n d)[j].drop s = (prods n d)[k].drop s
        · rw [if_pos ⟨h1, hi2⟩, sg_get hi2, if_neg]
          intro h2
          apply e
          have h3 := at_idx (take_prods hd hs hqj)
          have h4 := at_idx (take_prods hd hs hpk)
          rw [h2, h4] at h3
          have h5 : (prods n d)[k].take s = (prods n d)[j].take s := Option.some.inj h3
          have h6 : (prods n d)[j] = (prods n d)[k] := by
            rw [← List.take_append_drop s (prods n d)[j], ← List.take_append_drop s (prods n d)[k], h1, h5]
          exact (List.getElem?_inj hj (prods_nodup n d)).mp (by rw [ej, ek, h6])
        · rw [if_neg (fun h => h1 h.1)]
    · rw [List.getElem?_eq_none (by rw [cRow_len]; omega), List.getElem?_eq_none (by rw [sg_len]; omega)]
  · rw [List.getElem?_eq_none (by unfold cMap; rw [List.length_map]; omega), List.getElem?_eq_none (by rw [sm_len]; omega)]
end
/-- the map is of no greater degree -/
def Deg (s : Nat) (d : Int) (M : List (List Int)) : Prop := ∀ (i j : Nat) (pi pj row : List Int) (x : Int), (prods s d)[i]? = some pi → (prods s d)[j]? = some pj → M[i]? = some row → row[j]? = some x → x ≠ 0 → pj.sum ≤ pi.sum
theorem deg_sm (s : Nat) (d : Int) : Deg s d (sm (prods s d).length) := fun i j pi pj row x ei ej er ex nx => by
  have hi := (List.getElem?_eq_some_iff.mp ei).1
  have hj := (List.getElem?_eq_some_iff.mp ej).1
  have e1 : row = sg (prods s d).length i := by
    unfold sm at er
    rw [List.getElem?_map, List.getElem?_range hi] at er
    exact (Option.some.inj er).symm
  subst e1
  have e2 : x = if j = i then 1 else 0 := by
    have := sg_get (k := i) hj
    rwa [getD_of ex] at this
  by_cases e : j = i
  · subst e
    rw [ei] at ej
    cases ej
    exact Int.le_refl _
  · rw [if_neg e] at e2
    exact absurd e2 nx
def sp_places : Sp := fun vs H Q _ => ∃ (n : Nat) (d : Int) (F : Hp), vs = [.int (n : Int), .int d] ∧ Ex F H ∧ n ≤ 6 ∧ 0 ≤ d ∧ d ≤ 6 ∧
  ∀ a kvs F' H', H a = none → Gr NoS F H F' H' → F' a = none → H' a = some (.dT kvs) → IsPl (prods n d) kvs → Q (.ref a) H'
def sp_call_map (K : PySem.W.Frag) : Sp := fun vs H Q _ => ∃ (s n : Nat) (d : Int) (v : V) (M : List (List Int)) (F : Hp), vs = [.int (s : Int), .int (n : Int), .int d, v] ∧ Ex F H ∧ s ≤ n ∧ n ≤ 6 ∧ 0 ≤ d ∧ d ≤ 6 ∧ (prods s d).length ≤ 1000 ∧ (prods n d).length ≤ 1000 ∧
  Dp K F v (tti M) ∧ M.length = (prods s d).length ∧ Wid (prods s d).length M ∧ Deg s d M ∧ RetD K F H Q (tti (cMap s n d M))
end CB

set_option Elab.async false
set_option linter.all false
set_option maxRecDepth 100000
set_option maxHeartbeats 2000000
namespace CB
open PySem PySem.Spec PyProof.Rows L2
/-- what is done with a tracked tuple -/
def RetT (F H : Hp) (Q : VK) (q : List Int) : Prop := ∀ b F' H', Gr NoS F H F' H' → F' b = some (.tup (q.map V.int)) → Q (.ref b) H'
section
variable {K : PySem.W.Frag} {F H : Hp} {a b : Addr} {p r : List Int} {Q : VK}
theorem cat_T (hF : Ex F H) (ha : F a = some (.tup (p.map V.int))) (hb : F b = some (.tup (r.map V.int))) (hl : p.length + r.length ≤ 1000) (q : RetT F H Q (p ++ r)) : rCatA K (.ref a) (.ref b) H Q := by
  refine ⟨a, b, _, _, rfl, rfl, SqT.of (hF _ _ ha), SqT.of (hF _ _ hb), ?_, fun e => ?_, fun _ e => ?_, fun _ _ t nt => ?_⟩
  · rw [List.length_map, List.length_map]
    exact Nat.le_of_lt (small1000 hl)
  · have : p = [] := List.map_eq_nil_iff.mp e
    subst this
    exact q b F H (Gr.refl hF) hb
  · have : r = [] := List.map_eq_nil_iff.mp e
    subst this
    rw [List.append_nil] at q
    exact q a F H (Gr.refl hF) ha
  · exact q t _ _ ((Gr.refl hF).new nt) (by rw [upd_same, List.map_append])
theorem slice_T {lo hi : Option Int} {c : List Int} (hF : Ex F H) (ha : F a = some (.tup (p.map V.int))) (hc : cutV (p.map V.int) lo hi = c.map V.int) (q : RetT F H Q c) : rSlA K (.ref a) lo hi H Q := by
  refine ⟨a, _, rfl, SqT.of (hF _ _ ha), fun e => ?_, fun _ t nt => q t _ _ ((Gr.refl hF).new nt) (by rw [upd_same, hc])⟩
  refine q a F H (Gr.refl hF) ?_
  have : cutV (p.map V.int) lo hi = p.map V.int := by
    unfold cutV
    rw [e.1, e.2, List.drop_zero, Nat.sub_zero, List.take_length]
  rw [ha, ← hc, this]
end
theorem cut_take (p : List Int) {s : Nat} (h : s ≤ p.length) : cutV (p.map V.int) none (some (s : Int)) = (p.take s).map V.int := by
  unfold cutV
  rw [HT.sIx_none, HT.sIx_nat, List.drop_zero, List.length_map, Nat.min_eq_left h, Nat.sub_zero, List.map_take]
theorem cut_drop (p : List Int) {s : Nat} (h : s ≤ p.length) : cutV (p.map V.int) (some (s : Int)) none = (p.drop s).map V.int := by
  unfold cutV
  rw [HT.sIx_none, HT.sIx_nat, List.length_map, Nat.min_eq_left h, List.map_drop]
  exact List.take_of_length_le (by rw [List.length_drop, List.length_map]; exact Nat.le_refl _)
theorem get_T {H : Hp} {a b : Addr} {kvs : List (List Key × V)} {p : List Int} (e : H a = some (.dT kvs)) (eb : H b = some (.tup (p.map V.int))) : DGet H a (.ref b) (valV kvs (ky p)) := DGet.t e (by rw [ky_v]; exact eb)
theorem put_T {H : Hp} {a b : Addr} {kvs : List (List Key × V)} {p : List Int} {v : V} (e : H a = some (.dT kvs)) (eb : H b = some (.tup (p.map V.int))) (hl : kvs.length < sizeLine) : DPut H a (.ref b) v (upd H a (.dT (putK kvs (ky p) v))) := DPut.t e (by rw [ky_v]; exact eb) hl
theorem ixN_nat {n j : Nat} (h : j < n) : ixN n (j : Int) = some j := by
  unfold ixN
  rw [if_pos (by omega), if_pos (by omega), Int.toNat_natCast]
theorem putK_le (c : List (List Key × V)) (k : List Key) (x : V) : (putK c k x).length ≤ c.length + 1 := by
  unfold putK
  split
  · rw [List.length_map]; omega
  · rw [List.length_append]; exact Nat.le_refl _
theorem eqv_ints : ∀ {p q : List Int}, PyData.eqvAll (p.map PyData.int) (q.map PyData.int) = true → p = q
  | [], [], _ => rfl
  | [], _ :: _, h => by simp [PyData.eqvAll] at h
  | _ :: _, [], h => by simp [PyData.eqvAll] at h
  | x :: p, y :: q, h => by
    rw [List.map_cons, List.map_cons, PyData.eqvAll, Bool.and_eq_true] at h
    have h1 : x = y := by simpa [PyData.eqv] using h.1
    rw [h1, eqv_ints h.2]
theorem eqv_ti {p q : List Int} (h : PyData.eqv (ti p) (ti q) = true) : p = q := by
  rw [PyData.eqv] at h
  exact eqv_ints h
end CB

set_option Elab.async false
set_option linter.all false
set_option maxRecDepth 100000
set_option maxHeartbeats 4000000
namespace LW
open PySem PySem.Spec PyProof.Rows L2 CB
def topS (i : Nat) : Stmt := PySem.Challenge.pw_curvekept_k23_maps_of_calls.main.body.getD i (.Pass ⟨0, 0, 0, 0⟩)
abbrev nm_products : List Str := ["n", "d", "found", "box", "longer", "product", "often", "many"]
abbrev st_products : Stmt := topS 1
theorem sc_products : FnScope ["n", "d", "found", "box", "longer", "product", "often", "many"] ["n", "d"] (defScope st_products) := ⟨rfl, rfl, rfl, by decide +kernel, rfl, by decide +kernel, by decide +kernel⟩

abbrev nm_how_many : List Str := ["n", "d", "found", "k"]
abbrev st_how_many : Stmt := topS 2
theorem sc_how_many : FnScope ["n", "d", "found", "k"] ["n", "d"] (defScope st_how_many) := ⟨rfl, rfl, rfl, by decide +kernel, rfl, by decide +kernel, by decide +kernel⟩

abbrev nm_single : List Str := ["many", "at", "k"]
abbrev st_single : Stmt := topS 4
theorem sc_single : FnScope ["many", "at", "k"] ["many", "at"] (defScope st_single) := ⟨rfl, rfl, rfl, by decide +kernel, rfl, by decide +kernel, by decide +kernel⟩

abbrev nm_same_map : List Str := ["n", "d", "many", "at"]
abbrev st_same_map : Stmt := topS 5
theorem sc_same_map : FnScope ["n", "d", "many", "at"] ["n", "d"] (defScope st_same_map) := ⟨rfl, rfl, rfl, by decide +kernel, rfl, by decide +kernel, by decide +kernel⟩

abbrev nm_places : List Str := ["n", "d", "found", "product"]
abbrev st_places : Stmt := topS 6
theorem sc_places : FnScope ["n", "d", "found", "product"] ["n", "d"] (defScope st_places) := ⟨rfl, rfl, rfl, by decide +kernel, rfl, by decide +kernel, by decide +kernel⟩

abbrev nm_call_map : List Str := ["shared", "n", "d", "one", "inner", "places_inner", "places_here", "found", "product", "row", "number", "other"]
abbrev st_call_map : Stmt := topS 7
theorem sc_call_map : FnScope ["shared", "n", "d", "one", "inner", "places_inner", "places_here", "found", "product", "row", "number", "other"] ["shared", "n", "d", "one"] (defScope st_call_map) := ⟨rfl, rfl, rfl, by decide +kernel, rfl, by decide +kernel, by decide +kernel⟩

abbrev nm__law_deal : List Str := ["_law_script", "_law_base", "_law_some", "_law_one", "_law_number_here"]
abbrev st__law_deal : Stmt := topS 9
theorem sc__law_deal : FnScope ["_law_script", "_law_base", "_law_some", "_law_one", "_law_number_here"] ["_law_script", "_law_base"] (defScope st__law_deal) := ⟨rfl, rfl, rfl, by decide +kernel, rfl, by decide +kernel, by decide +kernel⟩

abbrev nm__law_draw : List Str := ["_law_deal_here", "_law_many", "_law_number_here", "_law_one", "_law_other"]
abbrev st__law_draw : Stmt := topS 10
theorem sc__law_draw : FnScope ["_law_deal_here", "_law_many", "_law_number_here", "_law_one", "_law_other"] ["_law_deal_here", "_law_many"] (defScope st__law_draw) := ⟨rfl, rfl, rfl, by decide +kernel, rfl, by decide +kernel, by decide +kernel⟩

abbrev nm__law_count : List Str := ["_law_n", "_law_d", "_law_found", "_law_k"]
abbrev st__law_count : Stmt := topS 11
theorem sc__law_count : FnScope ["_law_n", "_law_d", "_law_found", "_law_k"] ["_law_n", "_law_d"] (defScope st__law_count) := ⟨rfl, rfl, rfl, by decide +kernel, rfl, by decide +kernel, by decide +kernel⟩

abbrev nm__law_products : List Str := ["_law_n", "_law_d", "_law_found", "_law_k", "_law_longer", "_law_one", "_law_many"]
abbrev st__law_products : Stmt := topS 12
theorem sc__law_products : FnScope ["_law_n", "_law_d", "_law_found", "_law_k", "_law_longer", "_law_one", "_law_many"] ["_law_n", "_law_d"] (defScope st__law_products) := ⟨rfl, rfl, rfl, by decide +kernel, rfl, by decide +kernel, by decide +kernel⟩

abbrev nm__law_alike : List Str := ["_law_found", "_law_due_here", "_law_one", "_law_other"]
abbrev st__law_alike : Stmt := topS 13
theorem sc__law_alike : FnScope ["_law_found", "_law_due_here", "_law_one", "_law_other"] ["_law_found", "_law_due_here"] (defScope st__law_alike) := ⟨rfl, rfl, rfl, by decide +kernel, rfl, by decide +kernel, by decide +kernel⟩

abbrev nm__law_number : List Str := ["_law_deal_here", "_law_most"]
abbrev st__law_number : Stmt := topS 14
theorem sc__law_number : FnScope ["_law_deal_here", "_law_most"] ["_law_deal_here"] (defScope st__law_number) := ⟨rfl, rfl, rfl, by decide +kernel, rfl, by decide +kernel, by decide +kernel⟩

abbrev nm__law_map : List Str := ["_law_deal_here", "_law_n", "_law_d", "_law_found", "_law_product", "_law_row", "_law_one", "_law_number_here"]
abbrev st__law_map : Stmt := topS 15
theorem sc__law_map : FnScope ["_law_deal_here", "_law_n", "_law_d", "_law_found", "_law_product", "_law_row", "_law_one", "_law_number_here"] ["_law_deal_here", "_law_n", "_law_d"] (defScope st__law_map) := ⟨rfl, rfl, rfl, by decide +kernel, rfl, by decide +kernel, by decide +kernel⟩

abbrev nm__law_due : List Str := ["_law_shared", "_law_n", "_law_d", "_law_one", "_law_inner", "_law_found", "_law_product", "_law_poly", "_law_number_here", "_law_other"]
abbrev st__law_due : Stmt := topS 16
theorem sc__law_due : FnScope ["_law_shared", "_law_n", "_law_d", "_law_one", "_law_inner", "_law_found", "_law_product", "_law_poly", "_law_number_here", "_law_other"] ["_law_shared", "_law_n", "_law_d", "_law_one"] (defScope st__law_due) := ⟨rfl, rfl, rfl, by decide +kernel, rfl, by decide +kernel, by decide +kernel⟩

abbrev nm_law : List Str := ["_law_script", "_law_deal_here", "_law_heard", "_law_turn", "_law_n", "_law_shared", "_law_some", "_law_d", "_law_one"]
abbrev st_law : Stmt := topS 17
theorem sc_law : FnScope ["_law_script", "_law_deal_here", "_law_heard", "_law_turn", "_law_n", "_law_shared", "_law_some", "_law_d", "_law_one"] ["_law_script"] (defScope st_law) := ⟨rfl, rfl, rfl, by decide +kernel, rfl, by decide +kernel, by decide +kernel⟩

/-! ### what the top leaves -/
structure Txt (K : PySem.W.Frag) (mg : Str → Option Value) where
  f_products : Addr
  fd_products : FuncData
  F_products : Fun K "products" "products" st_products f_products fd_products
  b_products : Binds K fd_products ["n", "d"] []
  g_products : mg "products" = some (.ref f_products)
  f_how_many : Addr
  fd_how_many : FuncData
  F_how_many : Fun K "how_many" "how_many" st_how_many f_how_many fd_how_many
  b_how_many : Binds K fd_how_many ["n", "d"] []
  g_how_many : mg "how_many" = some (.ref f_how_many)
  f_single : Addr
  fd_single : FuncData
  F_single : Fun K "single" "single" st_single f_single fd_single
  b_single : Binds K fd_single ["many", "at"] []
  g_single : mg "single" = some (.ref f_single)
  f_same_map : Addr
  fd_same_map : FuncData
  F_same_map : Fun K "same_map" "same_map" st_same_map f_same_map fd_same_map
  b_same_map : Binds K fd_same_map ["n", "d"] []
  g_same_map : mg "same_map" = some (.ref f_same_map)
  f_places : Addr
  fd_places : FuncData
  F_places : Fun K "places" "places" st_places f_places fd_places
  b_places : Binds K fd_places ["n", "d"] []
  g_places : mg "places" = some (.ref f_places)
  f_call_map : Addr
  fd_call_map : FuncData
  F_call_map : Fun K "call_map" "call_map" st_call_map f_call_map fd_call_map
  b_call_map : Binds K fd_call_map ["shared", "n", "d", "one"] []
  g_call_map : mg "call_map" = some (.ref f_call_map)
  f__law_deal : Addr
  fd__law_deal : FuncData
  F__law_deal : Fun K "_law_deal" "_law_deal" st__law_deal f__law_deal fd__law_deal
  b__law_deal : Binds K fd__law_deal ["_law_script", "_law_base"] []
  g__law_deal : mg "_law_deal" = some (.ref f__law_deal)
  f__law_draw : Addr
  fd__law_draw : FuncData
  F__law_draw : Fun K "_law_draw" "_law_draw" st__law_draw f__law_draw fd__law_draw
  b__law_draw : Binds K fd__law_draw ["_law_deal_here", "_law_many"] []
  g__law_draw : mg "_law_draw" = some (.ref f__law_draw)
  f__law_count : Addr
  fd__law_count : FuncData
  F__law_count : Fun K "_law_count" "_law_count" st__law_count f__law_count fd__law_count
  b__law_count : Binds K fd__law_count ["_law_n", "_law_d"] []
  g__law_count : mg "_law_count" = some (.ref f__law_count)
  f__law_products : Addr
  fd__law_products : FuncData
  F__law_products : Fun K "_law_products" "_law_products" st__law_products f__law_products fd__law_products
  b__law_products : Binds K fd__law_products ["_law_n", "_law_d"] []
  g__law_products : mg "_law_products" = some (.ref f__law_products)
  f__law_alike : Addr
  fd__law_alike : FuncData
  F__law_alike : Fun K "_law_alike" "_law_alike" st__law_alike f__law_alike fd__law_alike
  b__law_alike : Binds K fd__law_alike ["_law_found", "_law_due_here"] []
  g__law_alike : mg "_law_alike" = some (.ref f__law_alike)
  f__law_number : Addr
  fd__law_number : FuncData
  F__law_number : Fun K "_law_number" "_law_number" st__law_number f__law_number fd__law_number
  b__law_number : Binds K fd__law_number ["_law_deal_here"] []
  g__law_number : mg "_law_number" = some (.ref f__law_number)
  f__law_map : Addr
  fd__law_map : FuncData
  F__law_map : Fun K "_law_map" "_law_map" st__law_map f__law_map fd__law_map
  b__law_map : Binds K fd__law_map ["_law_deal_here", "_law_n", "_law_d"] []
  g__law_map : mg "_law_map" = some (.ref f__law_map)
  f__law_due : Addr
  fd__law_due : FuncData
  F__law_due : Fun K "_law_due" "_law_due" st__law_due f__law_due fd__law_due
  b__law_due : Binds K fd__law_due ["_law_shared", "_law_n", "_law_d", "_law_one"] []
  g__law_due : mg "_law_due" = some (.ref f__law_due)
  f_law : Addr
  fd_law : FuncData
  F_law : Fun K "law" "law" st_law f_law fd_law
  b_law : Binds K fd_law ["_law_script"] []
  g_law : mg "law" = some (.ref f_law)
  z_all : mg "all" = none
  z_bool : mg "bool" = none
  z_int : mg "int" = none
  z_isinstance : mg "isinstance" = none
  z_len : mg "len" = none
  z_list : mg "list" = none
  z_max : mg "max" = none
  z_range : mg "range" = none
  z_reversed : mg "reversed" = none
  z_sorted : mg "sorted" = none
  z_sum : mg "sum" = none
  z_tuple : mg "tuple" = none
  z_zip : mg "zip" = none
section
variable {P : Program} {w : World} {K : PySem.W.Frag} {mg : Str → Option Value} {base : Heap}
/-! ### a draw -/
theorem ok_draw {k : Nat} (T : Txt K mg) : FnOk P w K mg base CX0 (k + 1) T.f__law_draw T.fd__law_draw ["_law_deal_here", "_law_many"] sp_draw := by
  refine T.F__law_draw.ok sc__law_draw (fun vs H Q E h => ?_) (fun cdv A outer s H vs Q E hr h => ?_)
  · obtain ⟨d, l, m, rfl, _⟩ := h
    rfl
  · obtain ⟨d, l, m, rfl, hD, m0, m1, q⟩ := h
    have hu := hu_of hr
    refine ⟨_, (Evl.pss_cut (ps_while PassesOwn.never (PW.pt (pw_and (pt_cmpR op_eq (pe_dget hu (pv 0) pe_str (fun _ _ => rfl)) pe_int (nomark _)) (pw_and1 (pt_cmpR op_gt (pe_callB (call_lenK (K := K)) (by rfl) T.z_len bt_len (pa_cons (pe_dget hu (pv 0) pe_str (fun _ _ => rfl)) pa_nil)) pe_int (nomark _)))))
        (pss_one (ps_dput hu (pv 0) pe_str (pe_bm0 PySem.F.plainAttrs_list PySem.F.slot_list_pop PySem.F.type_list_pop mt_pop (pe_dget hu (pv 0) pe_str (fun _ _ => rfl))) rfl)))
      (pss_cons (ps_set (i := 2) sc__law_draw.nd rfl (Or.inl rfl) (pe_dget hu (pv 0) pe_str (fun _ _ => rfl)))
      (pss_cons (ps_if (pt_cmpR op_gt (pv 2) pe_int (nomark _)) (pss_cons (ps_dput hu (pv 0) pe_str (pe_op op_fdivN (pv 2) (pv 1)) rfl)
        (pss_one (ps_ret (pe_op op_modN (pv 2) (pv 1))))) pss_nil)
      (pss_cons (ps_set (i := 3) sc__law_draw.nd rfl (Or.inl rfl) (pe_op op_modN (pe_op op_add (pe_op op_mul (pe_dget hu (pv 0) pe_str (fun _ _ => rfl)) pe_int) pe_int) pe_int))
      (pss_cons (ps_dput hu (pv 0) pe_str (pe_op op_modN (pe_op op_add (pe_op op_mul (pv 3) pe_int) pe_int) pe_int) rfl)
      (pss_cons (ps_set (i := 4) sc__law_draw.nd rfl (Or.inl rfl) (pe_op op_modN (pe_op op_mul (pe_dget hu (pv 0) pe_str (fun _ _ => rfl)) (pe_dget hu (pv 0) pe_str (fun _ _ => rfl))) pe_int))
      (pss_one (ps_ret (pe_op op_modN (pe_op op_add (pe_op op_mul (pe_op op_modN (pe_op op_mul (pv 3) (pv 3)) pe_int) pe_int) (pv 4)) (pv 1)))))))))), ?_⟩
    refine ⟨fun σ H1 => ∃ s n ls, σ = [some (.ref d), some (.int m), none, none, none] ∧ Deal H1 d l s n ls ∧ (∀ b, b ≠ d → b ≠ l → H1 b = H b), ?_, ?_⟩
    · refine ⟨fun mm σ H1 => ∃ s n ls, σ = [some (.ref d), some (.int m), none, none, none] ∧ Deal H1 d l s n ls ∧ ls.length = mm ∧ (∀ b, b ≠ d → b ≠ l → H1 b = H b), ?_, ?_⟩
      · obtain ⟨s, n, ls, h⟩ := hD
        exact ⟨_, s, n, ls, rfl, h, rfl, fun _ _ _ => rfl⟩
      · rintro mm σ H1 ⟨s, n, ls, rfl, D, el, fr⟩
        refine ⟨.ref d, rfl, d, .int n, rfl, D.g_number, rfl, _, rfl, ite2 (fun e => ?_) (fun e => ⟨s, n, ls, rfl, D, fr⟩)⟩
        refine ⟨.ref d, rfl, d, .ref l, rfl, D.g_left, l, ls.map V.int, rfl, .inl (SqL.of D.hl), _, _, rfl, rfl, _, rfl, ite2 (fun e2 => ?_) (fun e2 => ⟨s, n, ls, rfl, D, fr⟩)⟩
        refine ⟨_, fun σ' H' h => h, ?_⟩
        have hls : ls ≠ [] := fun z => by
          subst z
          exact absurd (of_decide_eq_true e2) (by simp)
        obtain ⟨y, y0, hy⟩ := D.last hls
        refine ⟨.ref d, rfl, d, .ref l, rfl, D.g_left, .inl ⟨rfl, _, SqL.of D.hl⟩, l, _, _, rfl, rfl, D.hl, hy, .ref d, rfl, d, _, rfl, (D.pop hls).p_number _, ls.length - 1, ?_, s, y, ls.dropLast, rfl, (D.pop hls).with_number (by omega), List.length_dropLast, fun b h1 h2 => ?_⟩
        · have : 0 < ls.length := List.length_pos_iff.mpr hls
          omega
        · rw [upd_ne h1, upd_ne h2]
          exact fr b h1 h2
    · rintro σ H1 ⟨s, n, ls, rfl, D, fr⟩
      refine ⟨.ref d, rfl, d, .int n, rfl, D.g_number, ?_⟩
      refine ⟨.int n, rfl, n, 0, rfl, rfl, _, rfl, ite2 (fun e => ?_) (fun e => ?_)⟩
      · have hn : 0 < n := of_decide_eq_true e
        refine ⟨.int n, rfl, .int m, rfl, n, m, rfl, rfl, ⟨by omega, by omega⟩, .ref d, rfl, d, _, rfl, D.p_number _, ?_⟩
        refine ⟨.int n, rfl, .int m, rfl, n, m, rfl, rfl, by omega, ?_⟩
        have e1 : n.fmod m = n % m := Int.fmod_eq_emod_of_nonneg n (by omega)
        have e2 : n.fdiv m = n / m := Int.fdiv_eq_ediv_of_nonneg n (by omega)
        show Q (.int (n.fmod m)) (upd H1 d (.dK (dealD s (n.fdiv m) l)))
        rw [e1, e2]
        exact q _ _ (Int.emod_nonneg _ (by omega)) (Int.emod_lt_of_pos _ m0) ⟨_, _, _, D.with_number (Int.ediv_nonneg (by omega) (by omega))⟩ (Kp.of_draw fun b h1 h2 => by rw [upd_ne h1]; exact fr b h1 h2)
      · have fm : ∀ x k : Int, 0 < k → 0 ≤ x.fmod k ∧ x.fmod k < k := fun x k hk => by
          rw [Int.fmod_eq_emod_of_nonneg x (by omega)]
          exact ⟨Int.emod_nonneg _ (by omega), Int.emod_lt_of_pos _ hk⟩
        have z0 := D.s0
        have z1 := D.s1
        have b1 := fm (s * 48271 + 7919) 2147483647 (by omega)
        obtain ⟨one, hone⟩ : ∃ x, x = (s * 48271 + 7919).fmod 2147483647 := ⟨_, rfl⟩
        rw [← hone] at b1
        refine ⟨.ref d, rfl, d, .int s, rfl, D.g_seed, _, _, rfl, rfl, .inl ⟨by omega, by omega⟩, _, _, rfl, rfl, _, _, rfl, rfl, by dsimp only; decide, ?_⟩
        have b2 := fm (one * 40692 + 104729) 2147483399 (by omega)
        refine ⟨.int one, by rw [hone]; rfl, _, _, rfl, rfl, .inl ⟨by omega, by omega⟩, _, _, rfl, rfl, _, _, rfl, rfl, by dsimp only; decide, .ref d, rfl, d, _, rfl, D.p_seed _, ?_⟩
        have D2 := D.with_seed (m := (one * 40692 + 104729).fmod 2147483399) b2.1 (by omega)
        have b4 := fm (one * one) 2147483629 (by omega)
        refine ⟨.ref d, rfl, d, _, rfl, D2.g_seed, .ref d, rfl, d, _, rfl, D2.g_seed, _, _, rfl, rfl, .inl ⟨by omega, by omega⟩, _, _, rfl, rfl, by dsimp only; decide, ?_⟩
        refine ⟨.int one, by rw [hone]; rfl, .int one, by rw [hone]; rfl, _, _, rfl, rfl, .inl ⟨by omega, by omega⟩, _, _, rfl, rfl, by dsimp only; decide, _, _, rfl, rfl, .inl ⟨by omega, by omega⟩, _, rfl, _, _, rfl, rfl, .int m, rfl, _, _, rfl, rfl, by dsimp only; omega, ?_⟩
        exact q _ _ (fm _ m m0).1 (fm _ m m0).2 ⟨_, _, _, D2⟩ (Kp.of_draw fun b h1 h2 => by rw [upd_ne h1]; exact fr b h1 h2)

/-! ### the deal -/
theorem ok_deal {k : Nat} (T : Txt K mg) : FnOk P w K mg base CX0 (k + 1) T.f__law_deal T.fd__law_deal ["_law_script", "_law_base"] (sp_deal K) := by
  refine T.F__law_deal.ok sc__law_deal (fun vs H Q E h => ?_) (fun cdv A outer s H vs Q E hr h => ?_)
  · obtain ⟨a, ns, b, rfl, _⟩ := h
    rfl
  · obtain ⟨a, ns, b, rfl, hS, hlen, b0, b1, q⟩ := h
    refine ⟨_, (pss_cons (ps_setLc (i := 2) (own := [("_law_one", 3)]) (g := gName 3) (tt := tYes) rfl sc__law_deal.nd rfl rfl (sw_true rfl rfl rfl (by decide +kernel)) (pi_listK (K := K) (pe_slice (sl_listK (K := K)) (pv 0) (po_some (pv 1)) (po_some pe_int))) (blkOk_by (own := [("_law_one", 3)]) (N := nm__law_deal) (sc := defScope st__law_deal) (by decide +kernel)) (fun _ _ _ _ _ => (pg_name (i := 3) sc__law_deal.nd rfl (Or.inl rfl))) (fun _ _ _ _ _ => pts_nil) (fun _ _ _ _ _ => (pe_callB (call_max2 rfl) (by rfl) T.z_max bt_max (pa_cons (pv 3) (pa_cons (pe_op op_sub pe_int (pv 3)) pa_nil)))))
      (pss_cons (ps_set (i := 4) sc__law_deal.nd rfl (Or.inl rfl) (pe_op op_add pe_int (pv 1)))
      (Evl.pss_cut (ps_for PassesOwn.never rfl (pi_listK (K := K) (pv 2)) (pg_name (i := 3) sc__law_deal.nd rfl (Or.inl rfl))
        (pss_one (ps_set (i := 4) sc__law_deal.nd rfl (Or.inl rfl) (pe_op op_modN (pe_op op_add (pe_op op_mul (pv 4) pe_int) (pe_op op_modN (pv 3) pe_int)) pe_int))))
      (pss_one (ps_ret (pe_disp (pps_cons pe_str (pv 4) (pps_cons pe_str pe_int (pps_cons pe_str (pe_listRev (K := K) rfl (by rfl) T.z_list (by rfl) T.z_reversed (pe_lc (own := [("_law_one", 3)]) (g := gName 3) rfl sc__law_deal.nd (pi_listK (K := K) (pv 2)) (blkOk_by (own := [("_law_one", 3)]) (N := nm__law_deal) (sc := defScope st__law_deal) (by decide +kernel)) (fun _ _ _ _ _ => (pg_name (i := 3) sc__law_deal.nd rfl (Or.inl rfl))) (fun _ _ _ _ _ => (pts_one (pt_cmpR op_ge (pv 3) (pe_op op_pow pe_int pe_int) (nomark _)))) (fun _ _ _ _ _ => (pv 3)))) pps_nil))) (by rfl) (by rfl) (fun z => by cases z) (by decide))))))), ?_⟩
    refine ⟨.ref a, rfl, .int b, rfl, b, rfl, 63, rfl, a, _, rfl, hS, fun p np => ⟨p, rfl, ⟨_, SqL.of upd_same⟩, fun D nD => ?_⟩⟩
    obtain ⟨ms, ems, lms⟩ := cut_ints ns (some b) (some 63)
    rw [ems] at nD ⊢
    have x0 : Ex H (upd H p (.lst (ms.map V.int))) := Evl.Ex.new np
    have hDp : D ≠ p := fun e => by rw [e, upd_same] at nD; cases nD
    have nDH : H D = none := Evl.fresh_back x0 nD
    refine lc_list (K := K) (a := p) (xs := ms.map V.int) (fun i H' => Ex H H' ∧ H' p = some (.lst (ms.map V.int)) ∧ ∃ bs : List Int, bs.length = i ∧ H' D = some (.lst (bs.map V.int))) ⟨x0.trans (Evl.Ex.new nD), by rw [upd_ne hDp.symm, upd_same], [], rfl, upd_same⟩ (fun i H' _ h => SqL.of h.2.1) (fun i x H' hx h => ?_) (fun H' h => ?_)
    · obtain ⟨x1, hp, bs, el, hb⟩ := h
      obtain ⟨z, rfl⟩ : ∃ z, x = .int z := by
        rw [List.getElem?_map] at hx
        obtain ⟨z, _, e⟩ := Option.map_eq_some_iff.mp hx
        exact ⟨z, e.symm⟩
      have hi : i < ms.length := by
        have := (List.getElem?_eq_some_iff.mp hx).1
        rw [List.length_map] at this
        exact this
      refine ⟨rfl, .int z, rfl, _, rfl, _, _, rfl, rfl, _, _, rfl, bs.map V.int, hb, small1000 (by rw [List.length_map]; omega), Evl.Ex.mut x1 nDH, by rw [upd_ne hDp.symm]; exact hp, bs ++ [_], by rw [List.length_append, el]; rfl, by rw [upd_same, List.map_append]; rfl⟩
    · obtain ⟨x1, hp, bs, el, hb⟩ := h
      rw [List.length_map] at el
      refine ⟨.int b, rfl, _, _, rfl, rfl, ?_⟩
      refine ⟨fun σ H3 => ∃ n, σ = [some (.ref a), some (.int b), some (.ref D), σ.getD 3 none, some (.int n)] ∧ 0 ≤ n ∧ n < 2147483648 ∧ H3 = H', ?_, ?_⟩
      · refine ⟨.ref D, rfl, D, rfl, ⟨_, SqL.of hb⟩, for_list (K := K) (a := D) (xs := bs.map V.int) (fun i σ H3 => ∃ n, σ = [some (.ref a), some (.int b), some (.ref D), σ.getD 3 none, some (.int n)] ∧ 0 ≤ n ∧ n < 2147483648 ∧ H3 = H') ⟨7919 + b, rfl, by omega, by omega, rfl⟩ (fun i σ H3 _ h => ?_) (fun i x σ H3 hx h => ?_) (fun σ H3 h => h)⟩
        · obtain ⟨n, _, _, _, rfl⟩ := h
          exact SqL.of hb
        · obtain ⟨n, e, n0, n1, rfl⟩ := h
          generalize σ.getD 3 none = y at e
          subst e
          obtain ⟨z, rfl⟩ : ∃ z, x = .int z := by
            rw [List.getElem?_map] at hx
            obtain ⟨z, _, e⟩ := Option.map_eq_some_iff.mp hx
            exact ⟨z, e.symm⟩
          refine ⟨.int n, rfl, _, _, rfl, rfl, .inl ⟨by omega, by omega⟩, .int z, rfl, _, _, rfl, rfl, by dsimp only; decide, _, _, rfl, rfl, _, _, rfl, rfl, by dsimp only; decide, ?_⟩
          exact ⟨_, rfl, (fmod_in _ _ (by decide)).1, Int.lt_trans (fmod_in _ 2147483647 (by decide)).2 (by decide), rfl⟩
      · rintro σ H3 ⟨n, e, n0, n1, rfl⟩
        generalize σ.getD 3 none = y at e
        subst e
        -- the dict
        intro d nd
        have ndH : H d = none := Evl.fresh_back x1 nd
        have hdD : D ≠ d := ne_of_none hb nd
        refine ⟨.int n, rfl, ?_⟩
        refine ⟨.ref D, rfl, D, rfl, ⟨_, SqL.of (by rw [upd_ne hdD]; exact hb)⟩, fun D2 nD2 => ?_⟩
        have hdD2 : D2 ≠ d := fun e => by rw [e, upd_same] at nD2; cases nD2
        have nD2H : H3 D2 = none := by rw [upd_ne hdD2] at nD2; exact nD2
        have hDD2 : D ≠ D2 := ne_of_none hb nD2H
        refine lc_list (K := K) (a := D) (xs := bs.map V.int) (fun i H' => Ex H H' ∧ H' D = some (.lst (bs.map V.int)) ∧ H' d = some (.dK []) ∧ ∃ cs : List Int, cs.length ≤ i ∧ (∀ x ∈ cs, 0 < x) ∧ H' D2 = some (.lst (cs.map V.int))) ⟨Evl.Ex.mut (Evl.Ex.mut x1 ndH) (Evl.fresh_back x1 nD2H), by rw [upd_ne hDD2, upd_ne hdD]; exact hb, by rw [upd_ne hdD2.symm, upd_same], [], by simp, fun x hx => by simp at hx, upd_same⟩ (fun i H' _ h => SqL.of h.2.1) (fun i x H' hx h => ?_) (fun H' h => ?_)
        · obtain ⟨x2, hb2, hd2, cs, lc, pc, hc⟩ := h
          obtain ⟨z, rfl⟩ : ∃ z, x = .int z := by
            rw [List.getElem?_map] at hx
            obtain ⟨z, _, e⟩ := Option.map_eq_some_iff.mp hx
            exact ⟨z, e.symm⟩
          have hi : i < bs.length := by
            have := (List.getElem?_eq_some_iff.mp hx).1
            rw [List.length_map] at this
            exact this
          refine ⟨rfl, .int z, rfl, _, _, rfl, rfl, ⟨by decide, by decide, by decide⟩, _, _, rfl, rfl, _, rfl, ite2 (fun e => ?_) (fun e => ?_)⟩
          · have hz : (10 : Int) ^ (18 : Int).toNat ≤ z := of_decide_eq_true e
            have hz0 : 0 < z := Int.lt_of_lt_of_le (by decide) hz
            refine ⟨.int z, rfl, cs.map V.int, hc, small1000 (by rw [List.length_map]; omega), Evl.Ex.mut x2 (Evl.fresh_back x1 nD2H), by rw [upd_ne hDD2]; exact hb2, by rw [upd_ne hdD2.symm]; exact hd2, cs ++ [z], by rw [List.length_append]; show cs.length + 1 ≤ i + 1; omega, fun x hx => ?_, by rw [upd_same, List.map_append]; rfl⟩
            rcases List.mem_append.mp hx with h | h
            · exact pc x h
            · rw [List.mem_singleton.mp h]; exact hz0
          · exact ⟨x2, hb2, hd2, cs, by omega, pc, hc⟩
        · obtain ⟨x2, hb2, hd2, cs, lc, pc, hc⟩ := h
          rw [List.length_map] at lc
          refine ⟨D2, _, rfl, SqL.of hc, fun l nl => ?_⟩
          have hdl : d ≠ l := ne_of_none hd2 nl
          refine ⟨by rw [upd_ne hdl]; exact hd2, dealD n 0 l, rfl, by show 3 ≤ 15; decide, ?_⟩
          rw [merge_deal]
          refine q d l _ (Evl.Ex.mut (Evl.Ex.mut x2 (Evl.fresh_back x2 nl)) ndH) ndH (Evl.fresh_back x2 nl) ⟨n, 0, cs.reverse, upd_same, ?_, n0, n1, by omega, fun x hx => pc x (List.mem_reverse.mp hx), by rw [List.length_reverse]; omega⟩
          rw [upd_ne hdl.symm, upd_same, List.map_reverse]

/-! ### products -/
theorem ok_products {k : Nat} (T : Txt K mg) : FnOk P w K mg base CX0 (k + 1) T.f_products T.fd_products ["n", "d"] sp_productsT := by
  refine T.F_products.ok sc_products (fun vs H Q E h => ?_) (fun cdv A outer s H vs Q E hr h => ?_)
  · obtain ⟨n, d, F, rfl, _⟩ := h
    rfl
  · obtain ⟨n, d, F, rfl, hF, hn, d0, d6, q⟩ := h
    have hu64 : (A.deeper (envOfC "products" (defScope st_products) s.heap.objs.size T.f_products cdv)).units + 64 < cLine := hr.units
    refine ⟨_, (pss_cons (ps_set (i := 2) sc_products.nd rfl (Or.inl rfl) (pe_lst (pa_cons (pe_tup pa_nil) pa_nil)))
      (Evl.pss_cut (ps_for PassesOwn.never rfl (pi_range1 (by rfl) T.z_range (pa_cons (pv 0) pa_nil)) (pg_name (i := 3) sc_products.nd rfl (Or.inl rfl))
        (pss_cons (ps_set (i := 4) sc_products.nd rfl (Or.inl rfl) (pe_lst pa_nil))
        (Evl.pss_cut (ps_for PassesOwn.never rfl (pi_listK (K := K) (pv 2)) (pg_name (i := 5) sc_products.nd rfl (Or.inr rfl))
          (pss_one (ps_expr (pe_bmK (K := K) PySem.F.plainAttrs_list PySem.F.slot_list_extend PySem.F.type_list_extend (mt_extK .L (K := K)) (pv 4) (pa_cons (pe_lc (own := [("often", 6)]) (g := gName 6) (tt := tYes) rfl sc_products.nd (pi_range1 (by rfl) T.z_range (pa_cons (pe_op op_add (pe_op op_sub (pv 1) (pe_callB (cr_sumT (K := K) rfl) (by rfl) T.z_sum bt_sum (pa_cons (pv 5) pa_nil))) pe_int) pa_nil)) (blkOk_by (own := [("often", 6)]) (N := nm_products) (sc := defScope st_products) (by decide +kernel)) (fun _ _ _ _ _ => (pg_name (i := 6) sc_products.nd rfl (Or.inl rfl))) (fun _ _ _ _ _ => pts_nil) (fun _ _ _ _ _ => (pe_op (op_catK (K := K)) (pv 5) (pe_tup (pa_cons (pv 6) pa_nil))))) pa_nil)))))
        (pss_one (ps_set (i := 2) sc_products.nd rfl (Or.inl rfl) (pv 4))))))
      (pss_one (ps_ret (pe_lc (own := [("many", 7), ("product", 5)]) (g := gTup K 2 (gCons (gName 7) (gCons (gName 5) gNil))) (tt := tYes) rfl sc_products.nd (pi_listK (K := K) (pe_callB (cr_sortP (K := K) hr.units) (by rfl) T.z_sorted bt_sorted (pa_cons (pe_lc (own := [("product", 5)]) (g := gName 5) (tt := tYes) rfl sc_products.nd (pi_listK (K := K) (pv 2)) (blkOk_by (own := [("product", 5)]) (N := nm_products) (sc := defScope st_products) (by decide +kernel)) (fun _ _ _ _ _ => (pg_name (i := 5) sc_products.nd rfl (Or.inl rfl))) (fun _ _ _ _ _ => pts_nil) (fun _ _ _ _ _ => (pe_tup (pa_cons (pe_callB (cr_sumT (K := K) rfl) (by rfl) T.z_sum bt_sum (pa_cons (pv 5) pa_nil)) (pa_cons (pv 5) pa_nil))))) pa_nil))) (blkOk_by (own := [("many", 7), ("product", 5)]) (N := nm_products) (sc := defScope st_products) (by decide +kernel)) (fun _ _ _ _ _ => (pg_tupK (K := K) rfl (pgs_cons (pg_name (i := 7) sc_products.nd rfl (Or.inl rfl)) (pgs_cons (pg_name (i := 5) sc_products.nd rfl (Or.inl rfl)) pgs_nil)))) (fun _ _ _ _ _ => pts_nil) (fun _ _ _ _ _ => (pv 5))))))), ?_⟩
    -- found = [()]
    refine ⟨by show 0 ≤ sizeLine; decide, fun e0 ne0 => ⟨by show 1 ≤ sizeLine; decide, fun pf npf => ?_⟩⟩
    have g1 : Gr NoS F H (upd F e0 (.tup [])) (upd H e0 (.tup [])) := (Gr.refl hF).new ne0
    have npfH : H pf = none := g1.none npf
    have nF1 : (upd F e0 (.tup [])) pf = none := sub_none g1.sub npf
    refine ⟨fun σ H' => ∃ F' pf xs y3 y4 y5 y6, σ = [some (.int n), some (.int d), some (.ref pf), y3, y4, y5, y6, none] ∧ Gr NoS F H F' H' ∧ H pf = none ∧ F' pf = none ∧ H' pf = some (.lst xs) ∧ TrAll F' xs (raw d n), ?_, ?_⟩
    · refine ⟨.int (n : Int), rfl, (n : Int), rfl, by omega, by omega, for_range (lo := 0) (n := (n : Int).toNat) (fun i σ H' => ∃ F' pf xs y3 y4 y5 y6, σ = [some (.int n), some (.int d), some (.ref pf), y3, y4, y5, y6, none] ∧ Gr NoS F H F' H' ∧ H pf = none ∧ F' pf = none ∧ H' pf = some (.lst xs) ∧ TrAll F' xs (raw d i)) ?_ (fun i σ H' hi h => ?_) (fun σ H' h => ?_)⟩
      · exact ⟨_, pf, _, _, _, _, _, rfl, g1.newm npf, npfH, nF1, upd_same, .cons ⟨e0, rfl, by rw [upd_same]; rfl⟩ .nil⟩
      · obtain ⟨F1, pf, xs, y3, y4, y5, y6, rfl, g, nH, nF, hf, hd⟩ := h
        have hi6 : i ≤ 6 := by omega
        -- longer = []
        refine ⟨Nat.zero_le _, fun pl npl => ?_⟩
        have nplH : H pl = none := g.none npl
        have ne1 : pf ≠ pl := ne_of_none hf npl
        have hxl : xs.length = (raw d i).length := hd.length
        refine ⟨fun σ H' => ∃ F' zs y5 y6, σ = [some (.int n), some (.int d), some (.ref pf), some (.int (0 + (i : Int))), some (.ref pl), y5, y6, none] ∧ Gr NoS F H F' H' ∧ F' pl = none ∧ H' pl = some (.lst zs) ∧ TrAll F' zs (raw d (i + 1)), ?_, ?_⟩
        · refine ⟨.ref pf, rfl, pf, rfl, ⟨_, SqL.of (by rw [upd_ne ne1]; exact hf)⟩, for_list (K := K) (a := pf) (xs := xs) (fun j σ H' => ∃ F' zs y5 y6, σ = [some (.int n), some (.int d), some (.ref pf), some (.int (0 + (i : Int))), some (.ref pl), y5, y6, none] ∧ Gr NoS F H F' H' ∧ F' pf = none ∧ H' pf = some (.lst xs) ∧ TrAll F' xs (raw d i) ∧ F' pl = none ∧ H' pl = some (.lst zs) ∧ TrAll F' zs (((raw d i).take j).flatMap (ext d))) ?_ (fun j σ H' _ h => ?_) (fun j x σ H' hx h => ?_) (fun σ H' h => ?_)⟩
          · exact ⟨F1, [], _, _, rfl, g.newm npl, nF, by rw [upd_ne ne1]; exact hf, hd, sub_none g.sub npl, upd_same, .nil⟩
          · obtain ⟨F', zs, y5, y6, _, _, _, h, _⟩ := h
            exact SqL.of h
          · obtain ⟨F2, zs, y5, y6, rfl, g2, nf2, hf2, hd2, nl2, hl2, hz2⟩ := h
            obtain ⟨p, ep, a, rfl, ha'⟩ := hd2.get hx
            have ha : SqT K F2 a (p.map V.int) := SqT.of ha'
            obtain ⟨r1, r2, r3, r4⟩ := raw_ok d0 i p (List.mem_of_getElem? ep)
            have hzl : zs.length ≤ 117649 := by
              rw [hz2.length]
              have h1 := flat_len ((raw d i).take j) (fun p hp => (raw_ok d0 i p (List.mem_of_mem_take hp)).2.1) d6
              have h3 := raw_len d0 d6 i
              have h4 : 7 ^ i ≤ 7 ^ 5 := Nat.pow_le_pow_right (by decide) (by omega)
              rw [List.length_take] at h1
              have : (7 : Nat) ^ 5 = 16807 := by decide
              omega
            refine ⟨.ref pl, rfl, .inl ⟨rfl, _, SqL.of hl2⟩, ?_⟩
            refine ⟨.int d, rfl, .ref a, rfl, a, p, rfl, ex_T g2.sub ha, _, _, rfl, rfl, _, _, rfl, rfl, d - p.sum + 1, rfl, by omega, by omega, fun D nD => ?_⟩
            refine lc_range (lo := 0) (n := (d - p.sum + 1).toNat) (fun m H3 => ∃ F3 ws, Gr NoS F2 H' F3 H3 ∧ F3 D = none ∧ H3 D = some (.lst ws) ∧ TrAll F3 ws ((List.range m).map fun (o : Nat) => p ++ [(o : Int)])) ⟨F2, [], (Gr.refl g2.sub).newm nD, sub_none g2.sub nD, upd_same, .nil⟩ (fun m H3 hm h => ?_) (fun H3 h => ?_)
            · obtain ⟨F3, ws, g3, nD3, hD3, hw3⟩ := h
              have hwl : ws.length < sizeLine := by
                rw [hw3.length, List.length_map, List.length_range]
                exact small1000 (by omega)
              refine ⟨rfl, .ref a, rfl, .int (0 + (m : Int)), rfl, by show 1 ≤ sizeLine; decide, fun t nt => ?_⟩
              have g4 := g3.new (o := .tup [.int (0 + (m : Int))]) nt
              have ntD : D ≠ t := ne_of_none hD3 nt
              have n4 : upd F3 t (.tup [.int (0 + (m : Int))]) D = none := by rw [upd_ne ntD]; exact nD3
              have e4 : upd H3 t (.tup [.int (0 + (m : Int))]) D = some (.lst ws) := by rw [upd_ne ntD]; exact hD3
              have ea4 : SqT K (upd F3 t (.tup [.int (0 + (m : Int))])) a (p.map V.int) := ex_T g4.fz ha
              have fin : ∀ (b : Addr) (F5 H5 : Hp), Gr NoS F2 H' F5 H5 → F5 D = none → H5 D = some (.lst ws) → Ex F3 F5 → F5 b = some (.tup ((p ++ [(m : Int)]).map V.int)) →
                  ∃ acc, H5 D = some (.lst acc) ∧ acc.length < sizeLine ∧ ∃ F3 ws, Gr NoS F2 H' F3 (upd H5 D (.lst (acc ++ [.ref b]))) ∧ F3 D = none ∧ (upd H5 D (.lst (acc ++ [.ref b]))) D = some (.lst ws) ∧ TrAll F3 ws ((List.range (m + 1)).map fun (o : Nat) => p ++ [(o : Int)]) := fun b F5 H5 g5 nD5 hD5 x5 hb => by
                refine ⟨ws, hD5, hwl, F5, ws ++ [.ref b], g5.mut nD nD5, nD5, upd_same, ?_⟩
                rw [List.range_succ, List.map_append]
                exact (TrAll.ex x5 hw3).snoc ⟨b, rfl, hb⟩
              have z0 : (0 : Int) + (m : Int) = m := by omega
              refine ⟨a, t, _, _, rfl, rfl, ex_T g4.sub ea4, SqT.of upd_same, ?_, fun h => ?_, fun _ h => absurd h (by simp), fun h1 _ b nb => ?_⟩
              · rw [List.length_map]
                exact Nat.le_of_lt (small1000 (by show p.length + 1 ≤ 1000; omega))
              · have hp0 : p = [] := List.map_eq_nil_iff.mp h
                subst hp0
                refine fin t _ _ g4 n4 e4 (Evl.Ex.new (sub_none g3.sub nt)) ?_
                rw [upd_same, z0]
                rfl
              · have g5 := g4.new (o := .tup (p.map V.int ++ [.int (0 + (m : Int))])) nb
                have nbD : D ≠ b := ne_of_none e4 nb
                refine fin b _ _ g5 (by rw [upd_ne nbD]; exact n4) (by rw [upd_ne nbD]; exact e4) ((Evl.Ex.new (sub_none g3.sub nt)).trans (Evl.Ex.new (sub_none g4.sub nb))) ?_
                rw [upd_same, z0, List.map_append]
                rfl
            · obtain ⟨F3, ws, g3, nD3, hD3, hw3⟩ := h
              obtain ⟨n1, m1⟩ := g3.keepm (fun h => h) nl2 hl2
              obtain ⟨n2, m2⟩ := g3.keepm (fun h => h) nf2 hf2
              refine ⟨pl, D, zs, ws, rfl, rfl, m1, SqL.of hD3, ?_, F3, zs ++ ws, _, _, rfl, (g2.trans g3).mut nplH n1, n2, by rw [upd_ne ne1]; exact m2, TrAll.ex g3.fz hd2, n1, upd_same, ?_⟩
              · have : ws.length ≤ 7 := by
                  rw [hw3.length, List.length_map, List.length_range]
                  omega
                exact Nat.le_trans (show zs.length + ws.length ≤ 200000 by omega) (by decide)
              · rw [List.take_add_one, ep, List.flatMap_append]
                refine (TrAll.ex g3.fz hz2).append ?_
                have e5 : (some p).toList.flatMap (ext d) = (List.range (d - p.sum + 1).toNat).map fun (o : Nat) => p ++ [(o : Int)] := by
                  show (ext d p) ++ [] = _
                  rw [List.append_nil]
                  rfl
                rw [e5]
                exact hw3
          · obtain ⟨F2, zs, y5, y6, e, g2, _, _, _, nl2, hl2, hz2⟩ := h
            rw [hxl, List.take_of_length_le (Nat.le_refl _)] at hz2
            exact ⟨F2, zs, y5, y6, e, g2, nl2, hl2, hz2⟩
        · rintro σ H' ⟨F2, zs, y5, y6, rfl, g2, nl2, hl2, hz2⟩
          exact ⟨.ref pl, rfl, F2, pl, zs, _, _, _, _, rfl, g2, nplH, nl2, hl2, hz2⟩
      · rw [Int.toNat_natCast] at h
        exact h
    · rintro σ H1 ⟨F1, pf, xs, y3, y4, y5, y6, rfl, g, nH, nF, hf, hd⟩
      have hxl : xs.length = (raw d n).length := hd.length
      have hx6 := raw_len6 d0 d6 hn
      -- the pairs
      refine ⟨.ref pf, rfl, pf, rfl, ⟨_, SqL.of hf⟩, fun D nD => ?_⟩
      refine lc_list (K := K) (a := pf) (xs := xs) (fun j H2 => ∃ F2 ws, Gr NoS F1 H1 F2 H2 ∧ F2 D = none ∧ H2 D = some (.lst ws) ∧ CB.F2 (Pr F2) ws ((raw d n).take j)) ⟨F1, [], (Gr.refl g.sub).newm nD, sub_none g.sub nD, upd_same, .nil⟩ (fun j H2 _ h => ?_) (fun j x H2 hx h => ?_) (fun H2 h => ?_)
      · obtain ⟨F2, ws, g2, _⟩ := h
        exact SqL.of (g2.ex _ _ hf)
      · obtain ⟨F2, ws, g2, nD2, hD2, hw2⟩ := h
        obtain ⟨p, ep, a, rfl, ha'⟩ := hd.get hx
        have ha : SqT K F1 a (p.map V.int) := SqT.of ha'
        have hwl : ws.length < sizeLine := by
          rw [hw2.length, List.length_take]
          have : 117650 ≤ sizeLine := by decide
          omega
        refine ⟨rfl, .ref a, rfl, a, p, rfl, ex_T g2.sub (ex_T g2.fz ha), .ref a, rfl, by show 2 ≤ sizeLine; decide, fun t nt => ?_⟩
        have g3 := g2.new (o := .tup [.int p.sum, .ref a]) nt
        have ntD : D ≠ t := ne_of_none hD2 nt
        refine ⟨ws, by rw [upd_ne ntD]; exact hD2, hwl, _, ws ++ [.ref t], g3.mut nD (by rw [upd_ne ntD]; exact nD2), by rw [upd_ne ntD]; exact nD2, upd_same, ?_⟩
        rw [List.take_add_one, ep]
        exact (PrAll.ex (Evl.Ex.new (sub_none g2.sub nt)) hw2).snoc ⟨t, a, rfl, upd_same, g3.fz _ _ ha'⟩
      · obtain ⟨F2, ws, g2, nD2, hD2, hw2⟩ := h
        rw [hxl, List.take_of_length_le (Nat.le_refl _)] at hw2
        refine ⟨D, ws, (raw d n).map encP, rfl, SqL.of hD2, CB.F2.dp (fun _ _ h => Pr.dp (Pr.ex g2.sub h)) hw2, enc_alike _, enc_sortable _, enc_depth _, fun ps nps => ?_⟩
        have hys2 : CB.F2 (Pr F2) (srt ws ((raw d n).map encP)) (prods n d) := hw2.sort
        generalize srt ws ((raw d n).map encP) = ys at hys2 ⊢
        have hyl : ys.length ≤ 117649 := by
          rw [hys2.length, prods_len]
          exact hx6
        have g3 : Gr NoS F1 H1 F2 (upd H2 ps (.lst ys)) := g2.newm nps
        refine ⟨ps, rfl, ⟨_, SqL.of upd_same⟩, fun R nR => ?_⟩
        have nRH : H R = none := (g.trans g3).none nR
        have nRF : F2 R = none := sub_none g3.sub nR
        refine lc_list (K := K) (a := ps) (xs := ys) (fun j H4 => ∃ zs, Gr NoS F2 (upd H2 ps (.lst ys)) F2 H4 ∧ H4 R = some (.lst zs) ∧ TrAll F2 zs ((prods n d).take j)) ⟨[], (Gr.refl g3.sub).newm nR, upd_same, .nil⟩ (fun j H4 _ h => ?_) (fun j x H4 hx h => ?_) (fun H4 h => ?_)
        · obtain ⟨zs, g4, _⟩ := h
          exact SqL.of (g4.ex _ _ upd_same)
        · obtain ⟨zs, g4, hR4, hz4⟩ := h
          obtain ⟨p, ep, t, av, rfl, ht', hav⟩ := hys2.get hx
          have ht : SqT K F2 t [.int p.sum, .ref av] := SqT.of ht'
          have hzl : zs.length < sizeLine := by
            rw [hz4.length, List.length_take, prods_len]
            have : 117650 ≤ sizeLine := by decide
            omega
          refine ⟨t, _, rfl, ex_T g4.sub ht, rfl, _, _, rfl, .ref av, [], rfl, rfl, rfl, .ref av, rfl, zs, hR4, hzl, zs ++ [.ref av], g4.mut nR nRF, upd_same, ?_⟩
          rw [List.take_add_one, ep]
          exact hz4.snoc ⟨av, rfl, hav⟩
        · obtain ⟨zs, g4, hR4, hz4⟩ := h
          have hfull : (prods n d).take ys.length = prods n d := List.take_of_length_le (by rw [hys2.length]; exact Nat.le_refl _)
          rw [hfull] at hz4
          exact q R zs F2 H4 nRH ((g.trans g3).trans g4) nRF hR4 hz4


/-! ### _law_products -/
theorem ok__law_products {k : Nat} (T : Txt K mg) : FnOk P w K mg base CX0 (k + 1) T.f__law_products T.fd__law_products ["_law_n", "_law_d"] sp_productsT := by
  refine T.F__law_products.ok sc__law_products (fun vs H Q E h => ?_) (fun cdv A outer s H vs Q E hr h => ?_)
  · obtain ⟨n, d, F, rfl, _⟩ := h
    rfl
  · obtain ⟨n, d, F, rfl, hF, hn, d0, d6, q⟩ := h
    have hu64 : (A.deeper (envOfC "_law_products" (defScope st__law_products) s.heap.objs.size T.f__law_products cdv)).units + 64 < cLine := hr.units
    refine ⟨_, (pss_cons (ps_set (i := 2) sc__law_products.nd rfl (Or.inl rfl) (pe_lst (pa_cons (pe_tup pa_nil) pa_nil)))
      (Evl.pss_cut (ps_for PassesOwn.never rfl (pi_range1 (by rfl) T.z_range (pa_cons (pv 0) pa_nil)) (pg_name (i := 3) sc__law_products.nd rfl (Or.inl rfl))
        (pss_cons (ps_set (i := 4) sc__law_products.nd rfl (Or.inl rfl) (pe_lst pa_nil))
        (Evl.pss_cut (ps_for PassesOwn.never rfl (pi_listK (K := K) (pv 2)) (pg_name (i := 5) sc__law_products.nd rfl (Or.inr rfl))
          (pss_one (ps_expr (pe_bmK (K := K) PySem.F.plainAttrs_list PySem.F.slot_list_extend PySem.F.type_list_extend (mt_extK .L (K := K)) (pv 4) (pa_cons (pe_lc (own := [("_law_many", 6)]) (g := gName 6) (tt := tYes) rfl sc__law_products.nd (pi_range1 (by rfl) T.z_range (pa_cons (pe_op op_add (pe_op op_sub (pv 1) (pe_callB (cr_sumT (K := K) rfl) (by rfl) T.z_sum bt_sum (pa_cons (pv 5) pa_nil))) pe_int) pa_nil)) (blkOk_by (own := [("_law_many", 6)]) (N := nm__law_products) (sc := defScope st__law_products) (by decide +kernel)) (fun _ _ _ _ _ => (pg_name (i := 6) sc__law_products.nd rfl (Or.inl rfl))) (fun _ _ _ _ _ => pts_nil) (fun _ _ _ _ _ => (pe_op (op_catK (K := K)) (pv 5) (pe_tup (pa_cons (pv 6) pa_nil))))) pa_nil)))))
        (pss_one (ps_set (i := 2) sc__law_products.nd rfl (Or.inl rfl) (pv 4))))))
      (pss_one (ps_ret (pe_lc (own := [("_law_one", 5)]) (g := gName 5) (tt := tYes) rfl sc__law_products.nd (pi_listK (K := K) (pe_callB (cr_sortP (K := K) hr.units) (by rfl) T.z_sorted bt_sorted (pa_cons (pe_lc (own := [("_law_one", 5)]) (g := gName 5) (tt := tYes) rfl sc__law_products.nd (pi_listK (K := K) (pv 2)) (blkOk_by (own := [("_law_one", 5)]) (N := nm__law_products) (sc := defScope st__law_products) (by decide +kernel)) (fun _ _ _ _ _ => (pg_name (i := 5) sc__law_products.nd rfl (Or.inl rfl))) (fun _ _ _ _ _ => pts_nil) (fun _ _ _ _ _ => (pe_tup (pa_cons (pe_callB (cr_sumT (K := K) rfl) (by rfl) T.z_sum bt_sum (pa_cons (pv 5) pa_nil)) (pa_cons (pv 5) pa_nil))))) pa_nil))) (blkOk_by (own := [("_law_one", 5)]) (N := nm__law_products) (sc := defScope st__law_products) (by decide +kernel)) (fun _ _ _ _ _ => (pg_name (i := 5) sc__law_products.nd rfl (Or.inl rfl))) (fun _ _ _ _ _ => pts_nil) (fun _ _ _ _ _ => (pe_ix (ix_tupK (K := K)) (pv 5) pe_int (fun _ _ => rfl)))))))), ?_⟩
    -- found = [()]
    refine ⟨by show 0 ≤ sizeLine; decide, fun e0 ne0 => ⟨by show 1 ≤ sizeLine; decide, fun pf npf => ?_⟩⟩
    have g1 : Gr NoS F H (upd F e0 (.tup [])) (upd H e0 (.tup [])) := (Gr.refl hF).new ne0
    have npfH : H pf = none := g1.none npf
    have nF1 : (upd F e0 (.tup [])) pf = none := sub_none g1.sub npf
    refine ⟨fun σ H' => ∃ F' pf xs y3 y4 y5 y6, σ = [some (.int n), some (.int d), some (.ref pf), y3, y4, y5, y6] ∧ Gr NoS F H F' H' ∧ H pf = none ∧ F' pf = none ∧ H' pf = some (.lst xs) ∧ TrAll F' xs (raw d n), ?_, ?_⟩
    · refine ⟨.int (n : Int), rfl, (n : Int), rfl, by omega, by omega, for_range (lo := 0) (n := (n : Int).toNat) (fun i σ H' => ∃ F' pf xs y3 y4 y5 y6, σ = [some (.int n), some (.int d), some (.ref pf), y3, y4, y5, y6] ∧ Gr NoS F H F' H' ∧ H pf = none ∧ F' pf = none ∧ H' pf = some (.lst xs) ∧ TrAll F' xs (raw d i)) ?_ (fun i σ H' hi h => ?_) (fun σ H' h => ?_)⟩
      · exact ⟨_, pf, _, _, _, _, _, rfl, g1.newm npf, npfH, nF1, upd_same, .cons ⟨e0, rfl, by rw [upd_same]; rfl⟩ .nil⟩
      · obtain ⟨F1, pf, xs, y3, y4, y5, y6, rfl, g, nH, nF, hf, hd⟩ := h
        have hi6 : i ≤ 6 := by omega
        -- longer = []
        refine ⟨Nat.zero_le _, fun pl npl => ?_⟩
        have nplH : H pl = none := g.none npl
        have ne1 : pf ≠ pl := ne_of_none hf npl
        have hxl : xs.length = (raw d i).length := hd.length
        refine ⟨fun σ H' => ∃ F' zs y5 y6, σ = [some (.int n), some (.int d), some (.ref pf), some (.int (0 + (i : Int))), some (.ref pl), y5, y6] ∧ Gr NoS F H F' H' ∧ F' pl = none ∧ H' pl = some (.lst zs) ∧ TrAll F' zs (raw d (i + 1)), ?_, ?_⟩
        · refine ⟨.ref pf, rfl, pf, rfl, ⟨_, SqL.of (by rw [upd_ne ne1]; exact hf)⟩, for_list (K := K) (a := pf) (xs := xs) (fun j σ H' => ∃ F' zs y5 y6, σ = [some (.int n), some (.int d), some (.ref pf), some (.int (0 + (i : Int))), some (.ref pl), y5, y6] ∧ Gr NoS F H F' H' ∧ F' pf = none ∧ H' pf = some (.lst xs) ∧ TrAll F' xs (raw d i) ∧ F' pl = none ∧ H' pl = some (.lst zs) ∧ TrAll F' zs (((raw d i).take j).flatMap (ext d))) ?_ (fun j σ H' _ h => ?_) (fun j x σ H' hx h => ?_) (fun σ H' h => ?_)⟩
          · exact ⟨F1, [], _, _, rfl, g.newm npl, nF, by rw [upd_ne ne1]; exact hf, hd, sub_none g.sub npl, upd_same, .nil⟩
          · obtain ⟨F', zs, y5, y6, _, _, _, h, _⟩ := h
            exact SqL.of h
          · obtain ⟨F2, zs, y5, y6, rfl, g2, nf2, hf2, hd2, nl2, hl2, hz2⟩ := h
            obtain ⟨p, ep, a, rfl, ha'⟩ := hd2.get hx
            have ha : SqT K F2 a (p.map V.int) := SqT.of ha'
            obtain ⟨r1, r2, r3, r4⟩ := raw_ok d0 i p (List.mem_of_getElem? ep)
            have hzl : zs.length ≤ 117649 := by
              rw [hz2.length]
              have h1 := flat_len ((raw d i).take j) (fun p hp => (raw_ok d0 i p (List.mem_of_mem_take hp)).2.1) d6
              have h3 := raw_len d0 d6 i
              have h4 : 7 ^ i ≤ 7 ^ 5 := Nat.pow_le_pow_right (by decide) (by omega)
              rw [List.length_take] at h1
              have : (7 : Nat) ^ 5 = 16807 := by decide
              omega
            refine ⟨.ref pl, rfl, .inl ⟨rfl, _, SqL.of hl2⟩, ?_⟩
            refine ⟨.int d, rfl, .ref a, rfl, a, p, rfl, ex_T g2.sub ha, _, _, rfl, rfl, _, _, rfl, rfl, d - p.sum + 1, rfl, by omega, by omega, fun D nD => ?_⟩
            refine lc_range (lo := 0) (n := (d - p.sum + 1).toNat) (fun m H3 => ∃ F3 ws, Gr NoS F2 H' F3 H3 ∧ F3 D = none ∧ H3 D = some (.lst ws) ∧ TrAll F3 ws ((List.range m).map fun (o : Nat) => p ++ [(o : Int)])) ⟨F2, [], (Gr.refl g2.sub).newm nD, sub_none g2.sub nD, upd_same, .nil⟩ (fun m H3 hm h => ?_) (fun H3 h => ?_)
            · obtain ⟨F3, ws, g3, nD3, hD3, hw3⟩ := h
              have hwl : ws.length < sizeLine := by
                rw [hw3.length, List.length_map, List.length_range]
                exact small1000 (by omega)
              refine ⟨rfl, .ref a, rfl, .int (0 + (m : Int)), rfl, by show 1 ≤ sizeLine; decide, fun t nt => ?_⟩
              have g4 := g3.new (o := .tup [.int (0 + (m : Int))]) nt
              have ntD : D ≠ t := ne_of_none hD3 nt
              have n4 : upd F3 t (.tup [.int (0 + (m : Int))]) D = none := by rw [upd_ne ntD]; exact nD3
              have e4 : upd H3 t (.tup [.int (0 + (m : Int))]) D = some (.lst ws) := by rw [upd_ne ntD]; exact hD3
              have ea4 : SqT K (upd F3 t (.tup [.int (0 + (m : Int))])) a (p.map V.int) := ex_T g4.fz ha
              have fin : ∀ (b : Addr) (F5 H5 : Hp), Gr NoS F2 H' F5 H5 → F5 D = none → H5 D = some (.lst ws) → Ex F3 F5 → F5 b = some (.tup ((p ++ [(m : Int)]).map V.int)) →
                  ∃ acc, H5 D = some (.lst acc) ∧ acc.length < sizeLine ∧ ∃ F3 ws, Gr NoS F2 H' F3 (upd H5 D (.lst (acc ++ [.ref b]))) ∧ F3 D = none ∧ (upd H5 D (.lst (acc ++ [.ref b]))) D = some (.lst ws) ∧ TrAll F3 ws ((List.range (m + 1)).map fun (o : Nat) => p ++ [(o : Int)]) := fun b F5 H5 g5 nD5 hD5 x5 hb => by
                refine ⟨ws, hD5, hwl, F5, ws ++ [.ref b], g5.mut nD nD5, nD5, upd_same, ?_⟩
                rw [List.range_succ, List.map_append]
                exact (TrAll.ex x5 hw3).snoc ⟨b, rfl, hb⟩
              have z0 : (0 : Int) + (m : Int) = m := by omega
              refine ⟨a, t, _, _, rfl, rfl, ex_T g4.sub ea4, SqT.of upd_same, ?_, fun h => ?_, fun _ h => absurd h (by simp), fun h1 _ b nb => ?_⟩
              · rw [List.length_map]
                exact Nat.le_of_lt (small1000 (by show p.length + 1 ≤ 1000; omega))
              · have hp0 : p = [] := List.map_eq_nil_iff.mp h
                subst hp0
                refine fin t _ _ g4 n4 e4 (Evl.Ex.new (sub_none g3.sub nt)) ?_
                rw [upd_same, z0]
                rfl
              · have g5 := g4.new (o := .tup (p.map V.int ++ [.int (0 + (m : Int))])) nb
                have nbD : D ≠ b := ne_of_none e4 nb
                refine fin b _ _ g5 (by rw [upd_ne nbD]; exact n4) (by rw [upd_ne nbD]; exact e4) ((Evl.Ex.new (sub_none g3.sub nt)).trans (Evl.Ex.new (sub_none g4.sub nb))) ?_
                rw [upd_same, z0, List.map_append]
                rfl
            · obtain ⟨F3, ws, g3, nD3, hD3, hw3⟩ := h
              obtain ⟨n1, m1⟩ := g3.keepm (fun h => h) nl2 hl2
              obtain ⟨n2, m2⟩ := g3.keepm (fun h => h) nf2 hf2
              refine ⟨pl, D, zs, ws, rfl, rfl, m1, SqL.of hD3, ?_, F3, zs ++ ws, _, _, rfl, (g2.trans g3).mut nplH n1, n2, by rw [upd_ne ne1]; exact m2, TrAll.ex g3.fz hd2, n1, upd_same, ?_⟩
              · have : ws.length ≤ 7 := by
                  rw [hw3.length, List.length_map, List.length_range]
                  omega
                exact Nat.le_trans (show zs.length + ws.length ≤ 200000 by omega) (by decide)
              · rw [List.take_add_one, ep, List.flatMap_append]
                refine (TrAll.ex g3.fz hz2).append ?_
                have e5 : (some p).toList.flatMap (ext d) = (List.range (d - p.sum + 1).toNat).map fun (o : Nat) => p ++ [(o : Int)] := by
                  show (ext d p) ++ [] = _
                  rw [List.append_nil]
                  rfl
                rw [e5]
                exact hw3
          · obtain ⟨F2, zs, y5, y6, e, g2, _, _, _, nl2, hl2, hz2⟩ := h
            rw [hxl, List.take_of_length_le (Nat.le_refl _)] at hz2
            exact ⟨F2, zs, y5, y6, e, g2, nl2, hl2, hz2⟩
        · rintro σ H' ⟨F2, zs, y5, y6, rfl, g2, nl2, hl2, hz2⟩
          exact ⟨.ref pl, rfl, F2, pl, zs, _, _, _, _, rfl, g2, nplH, nl2, hl2, hz2⟩
      · rw [Int.toNat_natCast] at h
        exact h
    · rintro σ H1 ⟨F1, pf, xs, y3, y4, y5, y6, rfl, g, nH, nF, hf, hd⟩
      have hxl : xs.length = (raw d n).length := hd.length
      have hx6 := raw_len6 d0 d6 hn
      -- the pairs
      refine ⟨.ref pf, rfl, pf, rfl, ⟨_, SqL.of hf⟩, fun D nD => ?_⟩
      refine lc_list (K := K) (a := pf) (xs := xs) (fun j H2 => ∃ F2 ws, Gr NoS F1 H1 F2 H2 ∧ F2 D = none ∧ H2 D = some (.lst ws) ∧ CB.F2 (Pr F2) ws ((raw d n).take j)) ⟨F1, [], (Gr.refl g.sub).newm nD, sub_none g.sub nD, upd_same, .nil⟩ (fun j H2 _ h => ?_) (fun j x H2 hx h => ?_) (fun H2 h => ?_)
      · obtain ⟨F2, ws, g2, _⟩ := h
        exact SqL.of (g2.ex _ _ hf)
      · obtain ⟨F2, ws, g2, nD2, hD2, hw2⟩ := h
        obtain ⟨p, ep, a, rfl, ha'⟩ := hd.get hx
        have ha : SqT K F1 a (p.map V.int) := SqT.of ha'
        have hwl : ws.length < sizeLine := by
          rw [hw2.length, List.length_take]
          have : 117650 ≤ sizeLine := by decide
          omega
        refine ⟨rfl, .ref a, rfl, a, p, rfl, ex_T g2.sub (ex_T g2.fz ha), .ref a, rfl, by show 2 ≤ sizeLine; decide, fun t nt => ?_⟩
        have g3 := g2.new (o := .tup [.int p.sum, .ref a]) nt
        have ntD : D ≠ t := ne_of_none hD2 nt
        refine ⟨ws, by rw [upd_ne ntD]; exact hD2, hwl, _, ws ++ [.ref t], g3.mut nD (by rw [upd_ne ntD]; exact nD2), by rw [upd_ne ntD]; exact nD2, upd_same, ?_⟩
        rw [List.take_add_one, ep]
        exact (PrAll.ex (Evl.Ex.new (sub_none g2.sub nt)) hw2).snoc ⟨t, a, rfl, upd_same, g3.fz _ _ ha'⟩
      · obtain ⟨F2, ws, g2, nD2, hD2, hw2⟩ := h
        rw [hxl, List.take_of_length_le (Nat.le_refl _)] at hw2
        refine ⟨D, ws, (raw d n).map encP, rfl, SqL.of hD2, CB.F2.dp (fun _ _ h => Pr.dp (Pr.ex g2.sub h)) hw2, enc_alike _, enc_sortable _, enc_depth _, fun ps nps => ?_⟩
        have hys2 : CB.F2 (Pr F2) (srt ws ((raw d n).map encP)) (prods n d) := hw2.sort
        generalize srt ws ((raw d n).map encP) = ys at hys2 ⊢
        have hyl : ys.length ≤ 117649 := by
          rw [hys2.length, prods_len]
          exact hx6
        have g3 : Gr NoS F1 H1 F2 (upd H2 ps (.lst ys)) := g2.newm nps
        refine ⟨ps, rfl, ⟨_, SqL.of upd_same⟩, fun R nR => ?_⟩
        have nRH : H R = none := (g.trans g3).none nR
        have nRF : F2 R = none := sub_none g3.sub nR
        refine lc_list (K := K) (a := ps) (xs := ys) (fun j H4 => ∃ zs, Gr NoS F2 (upd H2 ps (.lst ys)) F2 H4 ∧ H4 R = some (.lst zs) ∧ TrAll F2 zs ((prods n d).take j)) ⟨[], (Gr.refl g3.sub).newm nR, upd_same, .nil⟩ (fun j H4 _ h => ?_) (fun j x H4 hx h => ?_) (fun H4 h => ?_)
        · obtain ⟨zs, g4, _⟩ := h
          exact SqL.of (g4.ex _ _ upd_same)
        · obtain ⟨zs, g4, hR4, hz4⟩ := h
          obtain ⟨p, ep, t, av, rfl, ht', hav⟩ := hys2.get hx
          have ht : SqT K F2 t [.int p.sum, .ref av] := SqT.of ht'
          have hzl : zs.length < sizeLine := by
            rw [hz4.length, List.length_take, prods_len]
            have : 117650 ≤ sizeLine := by decide
            omega
          refine ⟨rfl, .ref t, rfl, t, _, 1, .ref av, rfl, rfl, ex_T g4.sub ht, rfl, zs, hR4, hzl, zs ++ [.ref av], g4.mut nR nRF, upd_same, ?_⟩
          rw [List.take_add_one, ep]
          exact hz4.snoc ⟨av, rfl, hav⟩
        · obtain ⟨zs, g4, hR4, hz4⟩ := h
          have hfull : (prods n d).take ys.length = prods n d := List.take_of_length_le (by rw [hys2.length]; exact Nat.le_refl _)
          rw [hfull] at hz4
          exact q R zs F2 H4 nRH ((g.trans g3).trans g4) nRF hR4 hz4


/-! ### places, call_map -/
theorem ok_places {k : Nat} (T : Txt K mg) : FnOk P w K mg base CX0 (k + 2) T.f_places T.fd_places ["n", "d"] sp_places := by
  have G_products : FnOk P w K mg base CX0 1 T.f_products T.fd_products ["n", "d"] sp_productsT := ok_products T
  refine T.F_places.ok sc_places (fun vs H Q E h => ?_) (fun cdv A outer s H vs Q E hr h => ?_)
  · obtain ⟨n, d, F, rfl, _⟩ := h
    rfl
  · obtain ⟨n, d, F, rfl, hF, hn, d0, d6, q⟩ := h
    have hu := hu_of hr
    refine ⟨_, (pss_cons (ps_set (i := 2) sc_places.nd rfl (Or.inl rfl) pe_dnewT)
      (Evl.pss_cut (ps_for PassesOwn.never rfl (pi_listK (K := K) (pe_call G_products (hr.mono (by omega)) (by rfl) T.g_products T.F_products.kp T.b_products .nil pass0 (pa_cons (pv 0) (pa_cons (pv 1) pa_nil)))) (pg_name (i := 3) sc_places.nd rfl (Or.inl rfl))
        (pss_one (ps_dput hu (pv 2) (pv 3) (pe_callB call_len_dT (by rfl) T.z_len bt_len (pa_cons (pv 2) pa_nil)) rfl)))
      (pss_one (ps_ret (pv 2))))), ?_⟩
    refine fun pd npd => ?_
    have nFd : F pd = none := sub_none hF npd
    refine ⟨fun σ H' => σ[2]? = some (some (.ref pd)) ∧ ∃ F' kvs, Gr NoS F H F' H' ∧ F' pd = none ∧ H' pd = some (.dT kvs) ∧ IsPl (prods n d) kvs, ?_, ?_⟩
    · have g0 : Gr NoS F H F (upd H pd (.dT [])) := (Gr.refl hF).newm npd
      refine ⟨.int (n : Int), rfl, .int d, rfl, n, d, F, rfl, g0.sub, hn, d0, d6, fun p xs F1 H1 np g1 nF1 hp hd => ?_⟩
      obtain ⟨nd1, hd1⟩ := g1.keepm (fun h => h) nFd upd_same
      have gg := g0.trans g1
      have hxl : xs.length = (prods n d).length := hd.length
      have hpl : (prods n d).length ≤ 117649 := by rw [prods_len]; exact raw_len6 d0 d6 hn
      have hne : p ≠ pd := fun e => by rw [e, upd_same] at np; cases np
      refine ⟨p, rfl, ⟨_, SqL.of hp⟩, for_list (K := K) (a := p) (xs := xs) (fun j σ H' => (∃ y3, σ = [some (.int (n : Int)), some (.int d), some (.ref pd), y3]) ∧ ∃ kvs, Gr NoS F H F1 H' ∧ H' p = some (.lst xs) ∧ H' pd = some (.dT kvs) ∧ IsPl ((prods n d).take j) kvs) ⟨⟨_, rfl⟩, [], gg, hp, hd1, IsPl.nil⟩ (fun j σ H' _ h => ?_) (fun j x σ H' hx h => ?_) (fun σ H' h => ?_)⟩
      · obtain ⟨_, kvs, _, h, _⟩ := h
        exact SqL.of h
      · obtain ⟨⟨y3, rfl⟩, kvs, g2, hp2, hd2, hpl2⟩ := h
        obtain ⟨pr, ep, b, rfl, hb⟩ := hd.get hx
        have hj := (List.getElem?_eq_some_iff.mp ep).1
        have hkl : kvs.length < sizeLine := by
          rw [hpl2.len, List.length_take]
          have : 117650 ≤ sizeLine := by decide
          omega
        refine ⟨.ref pd, rfl, pd, kvs, rfl, hd2, .ref pd, rfl, .ref b, rfl, pd, _, rfl, put_T hd2 (g2.sub _ _ hb) hkl, ⟨_, rfl⟩, _, g2.mut npd nd1, by rw [upd_ne hne]; exact hp2, upd_same, hpl2.snoc (prods_nodup n d) ep⟩
      · obtain ⟨⟨y3, rfl⟩, kvs, g2, hp2, hd2, hpl2⟩ := h
        rw [hxl, List.take_of_length_le (Nat.le_refl _)] at hpl2
        exact ⟨rfl, F1, kvs, g2, nd1, hd2, hpl2⟩
    · rintro σ H' ⟨e2, F', kvs, g, nd, hd, hpl⟩
      exact ⟨_, e2, q pd kvs F' H' npd g nd hd hpl⟩
theorem ok_call_map {k : Nat} (T : Txt K mg) : FnOk P w K mg base CX0 (k + 3) T.f_call_map T.fd_call_map ["shared", "n", "d", "one"] (sp_call_map K) := by
  have G_products : FnOk P w K mg base CX0 1 T.f_products T.fd_products ["n", "d"] sp_productsT := ok_products T
  have G_places : FnOk P w K mg base CX0 2 T.f_places T.fd_places ["n", "d"] sp_places := ok_places T
  refine T.F_call_map.ok sc_call_map (fun vs H Q E h => ?_) (fun cdv A outer s H vs Q E hr h => ?_)
  · obtain ⟨s, n, d, v, M, F, rfl, _⟩ := h
    rfl
  · obtain ⟨sh, n, d, v, M, F, rfl, hF, hsn, hn, d0, d6, hIl, hPl, hv, hMl, hWM, hdeg, q⟩ := h
    obtain ⟨a, xs, rfl, ha, hxs⟩ := Dp.tup_inv hv
    have hu := hu_of hr
    refine ⟨_, (pss_cons (ps_set (i := 4) sc_call_map.nd rfl (Or.inl rfl) (pe_call G_products (hr.mono (by omega)) (by rfl) T.g_products T.F_products.kp T.b_products .nil pass0 (pa_cons (pv 0) (pa_cons (pv 2) pa_nil))))
      (pss_cons (ps_set (i := 5) sc_call_map.nd rfl (Or.inl rfl) (pe_call G_places (hr.mono (by omega)) (by rfl) T.g_places T.F_places.kp T.b_places .nil pass0 (pa_cons (pv 0) (pa_cons (pv 2) pa_nil))))
      (pss_cons (ps_set (i := 6) sc_call_map.nd rfl (Or.inl rfl) (pe_call G_places (hr.mono (by omega)) (by rfl) T.g_places T.F_places.kp T.b_places .nil pass0 (pa_cons (pv 1) (pa_cons (pv 2) pa_nil))))
      (pss_cons (ps_set (i := 7) sc_call_map.nd rfl (Or.inl rfl) (pe_lst pa_nil))
      (Evl.pss_cut (ps_for PassesOwn.never rfl (pi_listK (K := K) (pe_call G_products (hr.mono (by omega)) (by rfl) T.g_products T.F_products.kp T.b_products .nil pass0 (pa_cons (pv 1) (pa_cons (pv 2) pa_nil)))) (pg_name (i := 8) sc_call_map.nd rfl (Or.inl rfl))
        (pss_cons (ps_set (i := 9) sc_call_map.nd rfl (Or.inl rfl) (pe_op op_rep (pe_lst (pa_cons pe_int pa_nil)) (pe_callB call_len_dT (by rfl) T.z_len bt_len (pa_cons (pv 6) pa_nil))))
        (Evl.pss_cut (ps_for PassesOwn.never rfl (pi_zipM .T .L (K := K) (by rfl) T.z_zip (pa_cons (pe_ix (ix_tupK (K := K)) (pv 3) (pe_dget hu (pv 5) (pe_slice (sl_tupK (K := K)) (pv 8) po_none (po_some (pv 0))) (fun _ _ => rfl)) (fun _ _ => rfl)) (pa_cons (pv 4) pa_nil))) (pg_tupK (K := K) rfl (pgs_cons (pg_name (i := 10) sc_call_map.nd rfl (Or.inl rfl)) (pgs_cons (pg_name (i := 11) sc_call_map.nd rfl (Or.inl rfl)) pgs_nil)))
          (pss_one (ps_if (pt_cmpR op_ne (pv 10) pe_int (nomark _)) (pss_one (ps_asg (pv 10) (pg_sub (pv 9) (pe_dget hu (pv 6) (pe_op (op_catK (K := K)) (pv 11) (pe_slice (sl_tupK (K := K)) (pv 8) (po_some (pv 0)) po_none)) (fun _ _ => rfl)) set_list))) pss_nil)))
        (pss_one (ps_expr (pe_bmK (K := K) PySem.F.plainAttrs_list PySem.F.slot_list_append PySem.F.type_list_append mt_append (pv 7) (pa_cons (pe_callTy (call_tupleK (K := K)) (by rfl) T.z_tuple bt_tuple (pa_cons (pv 9) pa_nil)) pa_nil)))))))
      (pss_one (ps_ret (pe_callTy (call_tupleK (K := K)) (by rfl) T.z_tuple bt_tuple (pa_cons (pv 7) pa_nil))))))))), ?_⟩
    -- inner, places_inner, places_here
    refine ⟨.int (sh : Int), rfl, .int d, rfl, sh, d, F, rfl, hF, by omega, d0, d6, fun pI xI F1 H1 npI g1 nI1 hI1 hdI => ?_⟩
    refine ⟨.int (sh : Int), rfl, .int d, rfl, sh, d, F1, rfl, g1.sub, by omega, d0, d6, fun pL kL F2 H2 npL g2 nL2 hL2 hplL => ?_⟩
    refine ⟨.int (n : Int), rfl, .int d, rfl, n, d, F2, rfl, g2.sub, by omega, d0, d6, fun pN kN F3 H3 npN g3 nN3 hN3 hplN => ?_⟩
    refine ⟨Nat.zero_le _, fun pf npf => ?_⟩
    have G3 := (g1.trans g2).trans g3
    obtain ⟨nI2, hI2⟩ := g2.keepm (fun h => h) nI1 hI1
    obtain ⟨nI3, hI3⟩ := g3.keepm (fun h => h) nI2 hI2
    obtain ⟨nL3, hL3⟩ := g3.keepm (fun h => h) nL2 hL2
    have npfF : F3 pf = none := sub_none g3.sub npf
    have npfH : H pf = none := G3.none npf
    have G4 : Gr NoS F H F3 (upd H3 pf (.lst [])) := G3.newm npf
    have x4 := Evl.Ex.new (o := .lst []) npf
    have hII := TrAll.ex (g2.fz.trans g3.fz) hdI
    have hxIl : xI.length = (prods sh d).length := hdI.length
    have hxl : xs.length = M.length := by rw [DpAll.length hxs, List.length_map]
    refine ⟨fun σ H' => σ[7]? = some (some (.ref pf)) ∧ ∃ F' ys, Gr NoS F H F' H' ∧ H' pf = some (.lst ys) ∧ DpAll K F' ys ((cMap sh n d M).map ti), ?_, ?_⟩
    · refine ⟨.int (n : Int), rfl, .int d, rfl, n, d, F3, rfl, G4.sub, by omega, d0, d6, fun pP xP F5 H5 npP g5 nP5 hP5 hdP => ?_⟩
      obtain ⟨nI5, hI5⟩ := g5.keepm (fun h => h) nI3 (x4 _ _ hI3)
      obtain ⟨nL5, hL5⟩ := g5.keepm (fun h => h) nL3 (x4 _ _ hL3)
      obtain ⟨nN5, hN5⟩ := g5.keepm (fun h => h) nN3 (x4 _ _ hN3)
      obtain ⟨nf5, hf5⟩ := g5.keepm (fun h => h) npfF upd_same
      have G5 := G4.trans g5
      have hxPl : xP.length = (prods n d).length := hdP.length
      refine ⟨pP, rfl, ⟨_, SqL.of hP5⟩, for_list (K := K) (a := pP) (xs := xP) (fun j σ H' => ∃ F' ys y8 y9 y10 y11, σ = [some (.int (sh : Int)), some (.int (n : Int)), some (.int d), some (.ref a), some (.ref pI), some (.ref pL), some (.ref pN), some (.ref pf), y8, y9, y10, y11] ∧ Gr NoS F H F' H' ∧ Ex F5 F' ∧ F' pP = none ∧ H' pP = some (.lst xP) ∧ F' pI = none ∧ H' pI = some (.lst xI) ∧ F' pL = none ∧ H' pL = some (.dT kL) ∧ F' pN = none ∧ H' pN = some (.dT kN) ∧ F' pf = none ∧ H' pf = some (.lst ys) ∧ DpAll K F' ys (((cMap sh n d M).take j).map ti)) ⟨F5, [], _, _, _, _, rfl, G5, Evl.Ex.refl _, nP5, hP5, nI5, hI5, nL5, hL5, nN5, hN5, nf5, hf5, .nil⟩ (fun j σ H' _ h => ?_) (fun j x σ H6 hx h => ?_) (fun σ H' h => ?_)⟩
      · obtain ⟨F', ys, _, _, _, _, _, _, _, _, h, _⟩ := h
        exact SqL.of h
      · obtain ⟨F6, ys, y8, y9, y10, y11, rfl, G6, x6, nP6, hP6, nI6, hI6, nL6, hL6, nN6, hN6, nf6, hf6, hys⟩ := h
        obtain ⟨pr, ep, b, rfl, hb'⟩ := hdP.get hx
        have hb := x6 _ _ hb'
        have hprm := List.mem_of_getElem? ep
        have hprl : pr.length = n := (prods_ok d0 hprm).1
        -- row = [0] * len(places_here)
        refine ⟨by show 1 ≤ sizeLine; decide, fun z nz => ?_⟩
        have xz := Evl.Ex.new (o := .lst [V.int 0]) nz
        refine ⟨.ref pN, rfl, pN, kN, rfl, xz _ _ hN6, z, _, [.int 0], rfl, rfl, upd_same, by omega, by rw [hplN.len]; omega, ?_, fun zz nzz => ?_⟩
        · show 1 * _ ≤ sizeLine
          rw [hplN.len]
          exact Nat.le_of_lt (small1000 (by omega))
        have hIm := take_prods d0 hsn hprm
        have ei := at_idx hIm
        generalize hidx : (prods sh d).idxOf (pr.take sh) = i at ei
        have hil : i < (prods sh d).length := (List.getElem?_eq_some_iff.mp ei).1
        obtain ⟨vr, evr⟩ : ∃ vr, xs[i]? = some vr := ⟨_, List.getElem?_eq_getElem (show i < xs.length by omega)⟩
        obtain ⟨dr, edr, hdr⟩ := DpAll.get hxs evr
        rw [List.getElem?_map] at edr
        obtain ⟨row, erow, rfl⟩ := Option.map_eq_some_iff.mp edr
        obtain ⟨c, rfl, hc⟩ := hdr.ti_inv
        have hrw : row.length = (prods sh d).length := hWM row (List.mem_of_getElem? erow)
        have ez : (List.replicate (kN.length : Int).toNat [V.int 0]).flatten = (cRow sh n d pr row 0).map V.int := by
          have := rep_zero [] (prods n d).length
          rw [List.map_nil, List.nil_append, List.nil_append] at this
          rw [hplN.len, cRow_zero, Int.toNat_natCast, this]
        rw [ez]
        have g7 : Gr NoS F6 H6 F6 (upd (upd H6 z (.lst [.int 0])) zz (.lst ((cRow sh n d pr row 0).map V.int))) := ((Gr.refl G6.sub).newm nz).newm nzz
        have nzzH : H6 zz = none := Evl.fresh_back xz nzz
        have nzzF : F6 zz = none := sub_none G6.sub nzzH
        have hzz7 : (upd (upd H6 z (.lst [.int 0])) zz (.lst ((cRow sh n d pr row 0).map V.int))) zz = some (.lst ((cRow sh n d pr row 0).map V.int)) := upd_same
        generalize (upd (upd H6 z (.lst [.int 0])) zz (.lst ((cRow sh n d pr row 0).map V.int))) = H7 at g7 hzz7 ⊢
        refine ⟨fun σ H' => (∃ y10 y11, σ = [some (.int (sh : Int)), some (.int (n : Int)), some (.int d), some (.ref a), some (.ref pI), some (.ref pL), some (.ref pN), some (.ref pf), some (.ref b), some (.ref zz), y10, y11]) ∧ ∃ F', Gr NoS F6 H6 F' H' ∧ F' zz = none ∧ H' zz = some (.lst ((cRow sh n d pr row (prods sh d).length).map V.int)), ?_, ?_⟩
        · refine ⟨.ref a, rfl, .ref pL, rfl, .ref b, rfl, .int (sh : Int), rfl, (sh : Int), rfl, ?_⟩
          refine slice_T (K := K) g7.sub (g7.fz _ _ hb) (cut_take pr (s := sh) (by omega)) (fun b2 F8 H8 g8 hb2 => ?_)
          have G8 := g7.trans g8
          obtain ⟨nL8, hL8⟩ := G8.keepm (fun h => h) nL6 hL6
          obtain ⟨nI8, hI8⟩ := G8.keepm (fun h => h) nI6 hI6
          obtain ⟨nz8, hz8⟩ := g8.keepm (fun h => h) nzzF hzz7
          have hgl : DGet H8 pL (.ref b2) (some (.int (i : Int))) := by
            have h := get_T hL8 (g8.sub _ _ hb2)
            rw [hplL.at_ i _ ei] at h
            exact h
          have xc : Ex F H8 := (G6.fz.trans G8.fz).trans G8.sub
          have hNN : (prods sh d).length = min (row.map V.int).length xI.length := by rw [List.length_map, hrw, hxIl, Nat.min_self]
          refine ⟨pL, _, rfl, hgl, a, xs, _, _, rfl, rfl, ex_T xc ha, atI_nat evr, .ref pI, rfl, c, pI, row.map V.int, xI, rfl, ex_T xc hc, SqL.of hI8, for_it (walk_zipM hNN) (fun t σ H' => (∃ y10 y11, σ = [some (.int (sh : Int)), some (.int (n : Int)), some (.int d), some (.ref a), some (.ref pI), some (.ref pL), some (.ref pN), some (.ref pf), some (.ref b), some (.ref zz), y10, y11]) ∧ ∃ F', Gr NoS F6 H6 F' H' ∧ F' zz = none ∧ H' zz = some (.lst ((cRow sh n d pr row t).map V.int))) ⟨⟨_, _, rfl⟩, F8, G8, nz8, hz8⟩ (fun t σ H' _ h => ?_) (fun t x σ H9 H9' ht h hy => ?_) (fun σ H' h => h)⟩
          · obtain ⟨_, F', g, _, _⟩ := h
            exact ⟨ex_T ((G6.fz.trans g.fz).trans g.sub) hc, SqL.of (g.keepm (fun h => h) nI6 hI6).2⟩
          · obtain ⟨⟨y10, y11, rfl⟩, F9, g9, nz9, hz9⟩ := h
            obtain ⟨tt, v1, v2, rfl, nt, rfl, e1, e2⟩ := hy
            obtain ⟨x, ex, rfl⟩ := int_get e1
            obtain ⟨o, eo, co, rfl, hco⟩ := hII.get e2
            have g10 := g9.newm (o := .tup [.int x, .ref co]) nt
            have hz10 : upd H9 tt (.tup [.int x, .ref co]) zz = some (.lst ((cRow sh n d pr row t).map V.int)) := by rw [upd_ne (ne_of_none hz9 nt)]; exact hz9
            refine ⟨tt, _, rfl, SqT.of upd_same, rfl, _, _, rfl, _, [], rfl, rfl, ?_⟩
            generalize upd H9 tt (.tup [.int x, .ref co]) = H10 at g10 hz10 ⊢
            refine ⟨.int x, rfl, rfl, _, rfl, ite2 (fun e => ?_) (fun e => ?_)⟩
            · have hx0 : x ≠ 0 := fun h0 => by
                rw [h0, decide_eq_true rfl] at e
                exact absurd e (by decide)
              have hom := List.mem_of_getElem? eo
              have hol := (prods_ok d0 hom).1
              have hq0 := join_prods d0 hsn hprm hom (hdeg i t _ _ row x ei eo erow ex hx0)
              have ek := at_idx hq0
              generalize (prods n d).idxOf (o ++ pr.drop sh) = kk at ek
              have hkl := (List.getElem?_eq_some_iff.mp ek).1
              refine ⟨.int x, rfl, .ref zz, rfl, .ref pN, rfl, .ref co, rfl, .ref b, rfl, .int (sh : Int), rfl, (sh : Int), rfl, ?_⟩
              dsimp only [tNoPart]
              refine slice_T (K := K) g10.sub (g10.fz _ _ hb) (cut_drop pr (s := sh) (by omega)) (fun b3 F11 H11 g11 hb3 => ?_)
              refine cat_T (K := K) g11.sub (g11.fz _ _ (g9.fz _ _ (x6 _ _ (g5.fz _ _ hco)))) hb3 (by rw [List.length_drop]; omega) (fun b4 F12 H12 g12 hb4 => ?_)
              have G12 := (g10.trans g11).trans g12
              obtain ⟨nN12, hN12⟩ := G12.keepm (fun h => h) nN6 hN6
              obtain ⟨nz12, hz12⟩ := (g11.trans g12).keepm (fun h => h) nz9 hz10
              have hgn : DGet H12 pN (.ref b4) (some (.int (kk : Int))) := by
                have h := get_T hN12 (g12.sub _ _ hb4)
                rw [hplN.at_ kk _ ek] at h
                exact h
              refine ⟨pN, _, rfl, hgn, zz, _, _, kk, rfl, rfl, hz12, by rw [List.length_map, cRow_len]; exact ixN_nat hkl, ⟨_, _, rfl⟩, F12, G12.mut nzzH nz12, nz12, ?_⟩
              rw [upd_same, ← List.map_set, cRow_set d0 hsn eo ex ek]
            · have hx0 : x = 0 := by
                by_cases h : x = 0
                · exact h
                · exfalso
                  apply e
                  rw [decide_eq_false (fun hh : V.int x = V.int 0 => h (V.int.inj hh))]
                  rfl
              subst hx0
              rw [cRow_skip d0 hsn eo ex]
              exact ⟨⟨_, _, rfl⟩, F9, g10, nz9, hz10⟩
        · rintro σ H' ⟨⟨y10, y11, rfl⟩, F9, g9, nz9, hz9⟩
          obtain ⟨nf9, hf9⟩ := g9.keepm (fun h => h) nf6 hf6
          refine ⟨.ref pf, rfl, .inl ⟨rfl, _, SqL.of hf9⟩, .ref zz, rfl, zz, _, rfl, .inl ⟨SqL.of hz9, fun tt ntt => ?_⟩⟩
          have g10 := g9.new (o := .tup ((cRow sh n d pr row (prods sh d).length).map V.int)) ntt
          have fx := Evl.Ex.new (o := .tup ((cRow sh n d pr row (prods sh d).length).map V.int)) (sub_none g9.sub ntt)
          have hdt : Dp K (upd F9 tt (.tup ((cRow sh n d pr row (prods sh d).length).map V.int))) (.ref tt) (ti (cRow sh n d pr row (prods sh d).length)) := Dp.of_ti (SqT.of upd_same)
          generalize upd F9 tt (.tup ((cRow sh n d pr row (prods sh d).length).map V.int)) = F10 at g10 fx hdt
          generalize upd H' tt (.tup ((cRow sh n d pr row (prods sh d).length).map V.int)) = H10 at g10 ⊢
          obtain ⟨nf10, hf10⟩ := g10.keepm (fun h => h) nf6 hf6
          obtain ⟨nP10, hP10⟩ := g10.keepm (fun h => h) nP6 hP6
          obtain ⟨nI10, hI10⟩ := g10.keepm (fun h => h) nI6 hI6
          obtain ⟨nL10, hL10⟩ := g10.keepm (fun h => h) nL6 hL6
          obtain ⟨nN10, hN10⟩ := g10.keepm (fun h => h) nN6 hN6
          have ne1 : pP ≠ pf := fun e => by rw [e, upd_same] at npP; cases npP
          have ne2 : pI ≠ pf := ne_of_none hI3 npf
          have ne3 : pL ≠ pf := ne_of_none hL3 npf
          have ne4 : pN ≠ pf := ne_of_none hN3 npf
          refine ⟨pf, ys, _, rfl, rfl, hf10, ?_, F10, ys ++ [.ref tt], _, _, _, _, rfl, (G6.trans g10).mut npfH nf10, x6.trans g10.fz, nP10, by rw [upd_ne ne1]; exact hP10, nI10, by rw [upd_ne ne2]; exact hI10, nL10, by rw [upd_ne ne3]; exact hL10, nN10, by rw [upd_ne ne4]; exact hN10, nf10, upd_same, ?_⟩
          · rw [DpAll.length hys, List.length_map, List.length_take]
            unfold cMap
            rw [List.length_map]
            exact small1000 (by omega)
          · have er : (cMap sh n d M)[j]? = some (cRow sh n d pr row (prods sh d).length) := by
              unfold cMap
              rw [List.getElem?_map, ep]
              show some (cRow sh n d pr (M.getD ((prods sh d).idxOf (pr.take sh)) []) _) = _
              rw [hidx, getD_of erow]
            rw [List.take_add_one, er, Option.toList_some, List.map_append]
            exact (hys.ex g10.fz).snoc hdt
      · obtain ⟨F6, ys, y8, y9, y10, y11, rfl, G6, x6, nP6, hP6, nI6, hI6, nL6, hL6, nN6, hN6, nf6, hf6, hys⟩ := h
        rw [hxPl, List.take_of_length_le (by unfold cMap; rw [List.length_map]; exact Nat.le_refl _)] at hys
        exact ⟨rfl, F6, ys, G6, hf6, hys⟩
    · rintro σ H' ⟨e7, F', ys, g, hl, hd⟩
      exact ⟨.ref pf, e7, q.tuple g hl hd⟩

/-! ### what is due -/
theorem ok_due {k : Nat} (T : Txt K mg) : FnOk P w K mg base CX0 (k + 2) T.f__law_due T.fd__law_due ["_law_shared", "_law_n", "_law_d", "_law_one"] (sp_call_map K) := by
  have G__law_products : FnOk P w K mg base CX0 1 T.f__law_products T.fd__law_products ["_law_n", "_law_d"] sp_productsT := ok__law_products T
  refine T.F__law_due.ok sc__law_due (fun vs H Q E h => ?_) (fun cdv A outer s H vs Q E hr h => ?_)
  · obtain ⟨s, n, d, v, M, F, rfl, _⟩ := h
    rfl
  · obtain ⟨sh, n, d, v, M, F, rfl, hF, hsn, hn, d0, d6, hIl, hPl, hv, hMl, hWM, hdeg, q⟩ := h
    obtain ⟨a, xs, rfl, ha, hxs⟩ := Dp.tup_inv hv
    have hu := hu_of hr
    have hu65 : (A.deeper (envOfC "_law_due" (defScope st__law_due) s.heap.objs.size T.f__law_due cdv)).units + 65 < cLine := by have := hr.un; omega
    refine ⟨_, (pss_cons (ps_set (i := 4) sc__law_due.nd rfl (Or.inl rfl) (pe_call G__law_products (hr.mono (by omega)) (by rfl) T.g__law_products T.F__law_products.kp T.b__law_products .nil pass0 (pa_cons (pv 0) (pa_cons (pv 2) pa_nil))))
      (pss_cons (ps_set (i := 5) sc__law_due.nd rfl (Or.inl rfl) (pe_lst pa_nil))
      (Evl.pss_cut (ps_for PassesOwn.never rfl (pi_listK (K := K) (pe_call G__law_products (hr.mono (by omega)) (by rfl) T.g__law_products T.F__law_products.kp T.b__law_products .nil pass0 (pa_cons (pv 1) (pa_cons (pv 2) pa_nil)))) (pg_name (i := 6) sc__law_due.nd rfl (Or.inl rfl))
        (pss_cons (ps_set (i := 7) sc__law_due.nd rfl (Or.inr rfl) pe_dnewT)
        (Evl.pss_cut (ps_for PassesOwn.never rfl (pi_zipM .T .L (K := K) (by rfl) T.z_zip (pa_cons (pe_ix (ix_tupK (K := K)) (pv 3) (pe_bmK (K := K) PySem.F.plainAttrs_list PySem.F.slot_list_index PySem.F.type_list_index (mt_indexD hu65) (pv 4) (pa_cons (pe_slice (sl_tupK (K := K)) (pv 6) po_none (po_some (pv 0))) pa_nil)) (fun _ _ => rfl)) (pa_cons (pv 4) pa_nil))) (pg_tupK (K := K) rfl (pgs_cons (pg_name (i := 8) sc__law_due.nd rfl (Or.inl rfl)) (pgs_cons (pg_name (i := 9) sc__law_due.nd rfl (Or.inl rfl)) pgs_nil)))
          (pss_one (ps_dput hu (pv 7) (pe_op (op_catK (K := K)) (pv 9) (pe_slice (sl_tupK (K := K)) (pv 6) (po_some (pv 0)) po_none)) (pv 8) rfl)))
        (pss_one (ps_expr (pe_bmK (K := K) PySem.F.plainAttrs_list PySem.F.slot_list_append PySem.F.type_list_append mt_append (pv 5) (pa_cons (pe_callTy (call_tupleK (K := K)) (by rfl) T.z_tuple bt_tuple (pa_cons (pe_lc (own := [("_law_other", 9)]) (g := gName 9) (tt := tYes) rfl sc__law_due.nd (pi_listK (K := K) (pe_call G__law_products (hr.mono (by omega)) (by rfl) T.g__law_products T.F__law_products.kp T.b__law_products .nil pass0 (pa_cons (pv 1) (pa_cons (pv 2) pa_nil)))) (blkOk_by (own := [("_law_other", 9)]) (N := nm__law_due) (sc := defScope st__law_due) (by decide +kernel)) (fun _ _ _ _ _ => (pg_name (i := 9) sc__law_due.nd rfl (Or.inl rfl))) (fun _ _ _ _ _ => pts_nil) (fun _ _ _ _ _ => (pe_dget2 hu (pv 7) (pv 9) pe_int ⟨rfl, rfl, rfl, rfl⟩))) pa_nil)) pa_nil)))))))
      (pss_one (ps_ret (pe_callTy (call_tupleK (K := K)) (by rfl) T.z_tuple bt_tuple (pa_cons (pv 5) pa_nil))))))), ?_⟩
    refine ⟨.int (sh : Int), rfl, .int d, rfl, sh, d, F, rfl, hF, by omega, d0, d6, fun pI xI F3 H3 npI g3 nI3 hI3 hII => ?_⟩
    refine ⟨Nat.zero_le _, fun pf npf => ?_⟩
    have npfF : F3 pf = none := sub_none g3.sub npf
    have npfH : H pf = none := g3.none npf
    have G4 : Gr NoS F H F3 (upd H3 pf (.lst [])) := g3.newm npf
    have x4 := Evl.Ex.new (o := .lst []) npf
    have hxIl : xI.length = (prods sh d).length := hII.length
    have hxl : xs.length = M.length := by rw [DpAll.length hxs, List.length_map]
    refine ⟨fun σ H' => σ[5]? = some (some (.ref pf)) ∧ ∃ F' ys, Gr NoS F H F' H' ∧ H' pf = some (.lst ys) ∧ DpAll K F' ys ((cMap sh n d M).map ti), ?_, ?_⟩
    · refine ⟨.int (n : Int), rfl, .int d, rfl, n, d, F3, rfl, G4.sub, by omega, d0, d6, fun pP xP F5 H5 npP g5 nP5 hP5 hdP => ?_⟩
      obtain ⟨nI5, hI5⟩ := g5.keepm (fun h => h) nI3 (x4 _ _ hI3)
      obtain ⟨nf5, hf5⟩ := g5.keepm (fun h => h) npfF upd_same
      have G5 := G4.trans g5
      have hxPl : xP.length = (prods n d).length := hdP.length
      refine ⟨pP, rfl, ⟨_, SqL.of hP5⟩, for_list (K := K) (a := pP) (xs := xP) (fun j σ H' => ∃ F' ys y6 y7 y8 y9, σ = [some (.int (sh : Int)), some (.int (n : Int)), some (.int d), some (.ref a), some (.ref pI), some (.ref pf), y6, y7, y8, y9] ∧ Gr NoS F H F' H' ∧ Ex F5 F' ∧ F' pP = none ∧ H' pP = some (.lst xP) ∧ F' pI = none ∧ H' pI = some (.lst xI) ∧ F' pf = none ∧ H' pf = some (.lst ys) ∧ DpAll K F' ys (((cMap sh n d M).take j).map ti)) ⟨F5, [], _, _, _, _, rfl, G5, Evl.Ex.refl _, nP5, hP5, nI5, hI5, nf5, hf5, .nil⟩ (fun j σ H' _ h => ?_) (fun j x σ H6 hx h => ?_) (fun σ H' h => ?_)⟩
      · obtain ⟨F', ys, _, _, _, _, _, _, _, _, h, _⟩ := h
        exact SqL.of h
      · obtain ⟨F6, ys, y6, y7, y8, y9, rfl, G6, x6, nP6, hP6, nI6, hI6, nf6, hf6, hys⟩ := h
        obtain ⟨pr, ep, b, rfl, hb'⟩ := hdP.get hx
        have hb := x6 _ _ hb'
        have hprm := List.mem_of_getElem? ep
        have hprl : pr.length = n := (prods_ok d0 hprm).1
        -- poly = {}
        refine fun zz nzzH => ?_
        have hIm := take_prods d0 hsn hprm
        have ei := at_idx hIm
        generalize hidx : (prods sh d).idxOf (pr.take sh) = i at ei
        have hil : i < (prods sh d).length := (List.getElem?_eq_some_iff.mp ei).1
        obtain ⟨vr, evr⟩ : ∃ vr, xs[i]? = some vr := ⟨_, List.getElem?_eq_getElem (show i < xs.length by omega)⟩
        obtain ⟨dr, edr, hdr⟩ := DpAll.get hxs evr
        rw [List.getElem?_map] at edr
        obtain ⟨row, erow, rfl⟩ := Option.map_eq_some_iff.mp edr
        obtain ⟨c, rfl, hc⟩ := hdr.ti_inv
        have hrw : row.length = (prods sh d).length := hWM row (List.mem_of_getElem? erow)
        have g7 : Gr NoS F6 H6 F6 (upd H6 zz (.dT [])) := (Gr.refl G6.sub).newm nzzH
        have nzzF : F6 zz = none := sub_none G6.sub nzzH
        have hzz7 : (upd H6 zz (.dT [])) zz = some (.dT []) := upd_same
        generalize (upd H6 zz (.dT [])) = H7 at g7 hzz7 ⊢
        refine ⟨fun σ H' => (∃ y8 y9, σ = [some (.int (sh : Int)), some (.int (n : Int)), some (.int d), some (.ref a), some (.ref pI), some (.ref pf), some (.ref b), some (.ref zz), y8, y9]) ∧ ∃ F' kvs, Gr NoS F6 H6 F' H' ∧ F' zz = none ∧ H' zz = some (.dT kvs) ∧ ∀ qq ∈ prods n d, (valV kvs (ky qq)).getD (.int 0) = .int (cEnt sh d pr row (prods sh d).length qq), ?_, ?_⟩
        · refine ⟨.ref a, rfl, .ref pI, rfl, .inl ⟨rfl, _, SqL.of (g7.keepm (fun h => h) nI6 hI6).2⟩, .ref b, rfl, .int (sh : Int), rfl, (sh : Int), rfl, ?_⟩
          refine slice_T (K := K) g7.sub (g7.fz _ _ hb) (cut_take pr (s := sh) (by omega)) (fun b2 F8 H8 g8 hb2 => ?_)
          have G8 := g7.trans g8
          obtain ⟨nI8, hI8⟩ := G8.keepm (fun h => h) nI6 hI6
          obtain ⟨nz8, hz8⟩ := g8.keepm (fun h => h) nzzF hzz7
          have hII8 : TrAll H8 xI (prods sh d) := TrAll.ex (((g5.fz.trans x6).trans G8.fz).trans G8.sub) hII
          have xc : Ex F H8 := (G6.fz.trans G8.fz).trans G8.sub
          have hNN : (prods sh d).length = min (row.map V.int).length xI.length := by rw [List.length_map, hrw, hxIl, Nat.min_self]
          refine ⟨pI, .ref b2, ti (pr.take sh), (prods sh d).map ti, i, ti (pr.take sh), rfl, rfl, .lst (SqL.of hI8) hII8.dp, Dp.of_ti (SqT.of (g8.sub _ _ hb2)), lti_shaped _, ti_shaped _, by rw [List.getElem?_map, ei]; rfl, eqv_refl _ (ti_shaped _), fun m z' hm ez' => ?_, ?_⟩
          · rw [List.getElem?_map] at ez'
            obtain ⟨pm, epm, rfl⟩ := Option.map_eq_some_iff.mp ez'
            cases hq : PyData.eqv (ti pm) (ti (pr.take sh)) with
            | false => rfl
            | true =>
              have e9 := eqv_ti hq
              rw [e9, ← ei] at epm
              have := (List.getElem?_inj (by omega : m < (prods sh d).length) (prods_nodup sh d)).mp epm
              omega
          refine ⟨a, xs, _, _, rfl, rfl, ex_T xc ha, atI_nat evr, .ref pI, rfl, c, pI, row.map V.int, xI, rfl, ex_T xc hc, SqL.of hI8, for_it (walk_zipM hNN) (fun t σ H' => (∃ y8 y9, σ = [some (.int (sh : Int)), some (.int (n : Int)), some (.int d), some (.ref a), some (.ref pI), some (.ref pf), some (.ref b), some (.ref zz), y8, y9]) ∧ ∃ F' kvs, Gr NoS F6 H6 F' H' ∧ F' zz = none ∧ H' zz = some (.dT kvs) ∧ kvs.length ≤ t ∧ ∀ qq ∈ prods n d, (valV kvs (ky qq)).getD (.int 0) = .int (cEnt sh d pr row t qq)) ⟨⟨_, _, rfl⟩, F8, [], G8, nz8, hz8, Nat.zero_le _, fun qq _ => ?_⟩ (fun t σ H' _ h => ?_) (fun t x σ H9 H9' ht h hy => ?_) (fun σ H' h => ?_)⟩
          · unfold cEnt
            rw [if_neg (fun h => by omega)]
            rfl
          · obtain ⟨_, F', kvs, g, _⟩ := h
            exact ⟨ex_T ((G6.fz.trans g.fz).trans g.sub) hc, SqL.of (g.keepm (fun h => h) nI6 hI6).2⟩
          · obtain ⟨⟨y8, y9, rfl⟩, F9, kvs, g9, nz9, hz9, hkl, hent⟩ := h
            obtain ⟨tt, v1, v2, rfl, nt, rfl, e1, e2⟩ := hy
            obtain ⟨x, ex, rfl⟩ := int_get e1
            obtain ⟨o, eo, co, rfl, hco⟩ := hII.get e2
            have g10 := g9.newm (o := .tup [.int x, .ref co]) nt
            have hz10 : upd H9 tt (.tup [.int x, .ref co]) zz = some (.dT kvs) := by rw [upd_ne (ne_of_none hz9 nt)]; exact hz9
            refine ⟨tt, _, rfl, SqT.of upd_same, rfl, _, _, rfl, _, [], rfl, rfl, ?_⟩
            generalize upd H9 tt (.tup [.int x, .ref co]) = H10 at g10 hz10 ⊢
            have hom := List.mem_of_getElem? eo
            have hol := (prods_ok d0 hom).1
            refine ⟨.int x, rfl, .ref zz, rfl, .ref co, rfl, .ref b, rfl, .int (sh : Int), rfl, (sh : Int), rfl, ?_⟩
            dsimp only [tNoPart]
            refine slice_T (K := K) g10.sub (g10.fz _ _ hb) (cut_drop pr (s := sh) (by omega)) (fun b3 F11 H11 g11 hb3 => ?_)
            refine cat_T (K := K) g11.sub (g11.fz _ _ (g9.fz _ _ (x6 _ _ (g5.fz _ _ hco)))) hb3 (by rw [List.length_drop]; omega) (fun b4 F12 H12 g12 hb4 => ?_)
            have G12 := (g10.trans g11).trans g12
            obtain ⟨nz12, hz12⟩ := (g11.trans g12).keepm (fun h => h) nz9 hz10
            refine ⟨zz, _, rfl, put_T hz12 (g12.sub _ _ hb4) (small1000 (by omega)), ⟨_, _, rfl⟩, F12, _, G12.mut nzzH nz12, nz12, upd_same, Nat.le_trans (putK_le _ _ _) (by omega), fun qq hqq => ?_⟩
            rw [valV_put]
            by_cases e : qq = o ++ pr.drop sh
            · rw [if_pos (by rw [e]), cEnt_new d0 eo ex e]
              rfl
            · rw [if_neg (fun h => e (ky_inj h)), cEnt_same hqq d0 hsn eo e]
              exact hent qq hqq
          · obtain ⟨⟨y8, y9, rfl⟩, F9, kvs, g9, nz9, hz9, hkl, hent⟩ := h
            exact ⟨⟨_, _, rfl⟩, F9, kvs, g9, nz9, hz9, hent⟩
        · rintro σ H7' ⟨⟨y8', y9', rfl⟩, F9, kvs, g9, nz9, hz9, hent⟩
          obtain ⟨nf9, hf9⟩ := g9.keepm (fun h => h) nf6 hf6
          refine ⟨.ref pf, rfl, .inl ⟨rfl, _, SqL.of hf9⟩, .int (n : Int), rfl, .int d, rfl, n, d, F9, rfl, g9.sub, by omega, d0, d6, fun pQ xQ F10 H10 npQ g10 nQ10 hQ10 hdQ => ?_⟩
          obtain ⟨nz10, hz10⟩ := g10.keepm (fun h => h) nz9 hz9
          have hxQl : xQ.length = (prods n d).length := hdQ.length
          refine ⟨pQ, rfl, ⟨_, SqL.of hQ10⟩, fun R nR => ?_⟩
          have neQ : pQ ≠ R := ne_of_none hQ10 nR
          have nezz : zz ≠ R := ne_of_none hz10 nR
          have nRF : F10 R = none := sub_none g10.sub nR
          refine lc_list (K := K) (a := pQ) (xs := xQ) (fun t H' => Gr NoS F10 H10 F10 H' ∧ H' R = some (.lst (((cRow sh n d pr row (prods sh d).length).take t).map V.int))) ⟨(Gr.refl g10.sub).newm nR, upd_same⟩ (fun t H' _ h => SqL.of (h.1.ex _ _ hQ10)) (fun t x H' hx' h => ?_) (fun H' h => ?_)
          · obtain ⟨g11, hR⟩ := h
            obtain ⟨qq, eq, bq, rfl, hbq⟩ := hdQ.get hx'
            have hz11 := g11.ex _ _ hz10
            refine ⟨rfl, .ref zz, rfl, zz, rfl, .inr ⟨kvs, .inl hz11⟩, .ref bq, rfl, _, get_T hz11 (g11.sub _ _ hbq), ?_⟩
            rw [hent qq (List.mem_of_getElem? eq)]
            refine ⟨_, hR, ?_, g11.mut nR nRF, ?_⟩
            · rw [List.length_map, List.length_take, cRow_len]
              exact small1000 (by omega)
            · have er : (cRow sh n d pr row (prods sh d).length)[t]? = some (cEnt sh d pr row (prods sh d).length qq) := by
                unfold cRow
                rw [List.getElem?_map, eq]
                rfl
              rw [upd_same, List.take_add_one, er, List.map_append]
              rfl
          · obtain ⟨g11, hR⟩ := h
            rw [hxQl, List.take_of_length_le (by rw [cRow_len]; exact Nat.le_refl _)] at hR
            refine ⟨R, _, rfl, .inl ⟨SqL.of hR, fun tt ntt => ?_⟩⟩
            have g12 := ((g9.trans g10).trans g11).new (o := .tup ((cRow sh n d pr row (prods sh d).length).map V.int)) ntt
            have hdt : Dp K (upd F10 tt (.tup ((cRow sh n d pr row (prods sh d).length).map V.int))) (.ref tt) (ti (cRow sh n d pr row (prods sh d).length)) := Dp.of_ti (SqT.of upd_same)
            generalize upd F10 tt (.tup ((cRow sh n d pr row (prods sh d).length).map V.int)) = F12 at g12 hdt
            generalize upd H' tt (.tup ((cRow sh n d pr row (prods sh d).length).map V.int)) = H12 at g12 ⊢
            obtain ⟨nf12, hf12⟩ := g12.keepm (fun h => h) nf6 hf6
            obtain ⟨nP12, hP12⟩ := g12.keepm (fun h => h) nP6 hP6
            obtain ⟨nI12, hI12⟩ := g12.keepm (fun h => h) nI6 hI6
            have ne1 : pP ≠ pf := fun e => by rw [e, upd_same] at npP; cases npP
            have ne2 : pI ≠ pf := ne_of_none hI3 npf
            refine ⟨pf, ys, _, rfl, rfl, hf12, ?_, F12, ys ++ [.ref tt], _, _, _, _, rfl, (G6.trans g12).mut npfH nf12, x6.trans g12.fz, nP12, by rw [upd_ne ne1]; exact hP12, nI12, by rw [upd_ne ne2]; exact hI12, nf12, upd_same, ?_⟩
            · rw [DpAll.length hys, List.length_map, List.length_take]
              unfold cMap
              rw [List.length_map]
              exact small1000 (by omega)
            · have er : (cMap sh n d M)[j]? = some (cRow sh n d pr row (prods sh d).length) := by
                unfold cMap
                rw [List.getElem?_map, ep]
                show some (cRow sh n d pr (M.getD ((prods sh d).idxOf (pr.take sh)) []) _) = _
                rw [hidx, getD_of erow]
              rw [List.take_add_one, er, Option.toList_some, List.map_append]
              exact (hys.ex g12.fz).snoc hdt
      · obtain ⟨F6, ys, y6, y7, y8, y9, rfl, G6, x6, nP6, hP6, nI6, hI6, nf6, hf6, hys⟩ := h
        rw [hxPl, List.take_of_length_le (by unfold cMap; rw [List.length_map]; exact Nat.le_refl _)] at hys
        exact ⟨rfl, F6, ys, G6, hf6, hys⟩
    · rintro σ H' ⟨e7, F', ys, g, hl, hd⟩
      exact ⟨.ref pf, e7, q.tuple g hl hd⟩

/-! ### _law_count -/
theorem ok__law_count {k : Nat} (T : Txt K mg) : FnOk P w K mg base CX0 (k + 1) T.f__law_count T.fd__law_count ["_law_n", "_law_d"] sp_how_many := by
  refine T.F__law_count.ok sc__law_count (fun vs H Q E h => ?_) (fun cdv A outer s H vs Q E hr h => ?_)
  · obtain ⟨n, d, rfl, _⟩ := h
    rfl
  · obtain ⟨n, d, rfl, hn, d0, d6, q⟩ := h
    refine ⟨_, (pss_cons (ps_set (i := 2) sc__law_count.nd rfl (Or.inl rfl) pe_int)
      (Evl.pss_cut (ps_for PassesOwn.never rfl (pi_range2 (by rfl) T.z_range (pa_cons pe_int (pa_cons (pe_op op_add (pv 0) pe_int) pa_nil))) (pg_name (i := 3) sc__law_count.nd rfl (Or.inl rfl))
        (pss_one (ps_set (i := 2) sc__law_count.nd rfl (Or.inl rfl) (pe_op op_fdivN (pe_op op_mul (pv 2) (pe_op op_add (pv 1) (pv 3))) (pv 3)))))
      (pss_one (ps_ret (pv 2))))), ?_⟩
    refine ⟨fun σ H' => (∃ y3, σ = [some (.int n), some (.int d), some (.int (hm d n)), y3]) ∧ H' = H, ?_, ?_⟩
    · refine ⟨.int (n : Int), rfl, _, _, rfl, rfl, 1, (n : Int) + 1, rfl, ⟨by omega, by omega, by omega, by omega⟩, ?_⟩
      refine for_range (lo := 1) (n := ((n : Int) + 1 - 1).toNat) (fun i σ H' => (∃ y3, σ = [some (.int n), some (.int d), some (.int (hm d i)), y3]) ∧ H' = H) ⟨⟨_, rfl⟩, rfl⟩ (fun i σ H' hi h => ?_) (fun σ H' h => ?_)
      · obtain ⟨⟨y3, rfl⟩, rfl⟩ := h
        refine ⟨.int (hm d i), rfl, .int d, rfl, .int (1 + (i : Int)), rfl, _, _, rfl, rfl, _, _, rfl, rfl, .inr ⟨by omega, by omega⟩, .int (1 + (i : Int)), rfl, _, _, rfl, rfl, ⟨by omega, by omega⟩, ⟨_, rfl⟩, rfl⟩
      · have e : ((n : Int) + 1 - 1).toNat = n := by omega
        rw [e] at h
        exact h
    · rintro σ H' ⟨⟨y3, rfl⟩, rfl⟩
      exact ⟨_, rfl, q⟩

/-! ### how_many -/
theorem ok_how_many {k : Nat} (T : Txt K mg) : FnOk P w K mg base CX0 (k + 1) T.f_how_many T.fd_how_many ["n", "d"] sp_how_many := by
  refine T.F_how_many.ok sc_how_many (fun vs H Q E h => ?_) (fun cdv A outer s H vs Q E hr h => ?_)
  · obtain ⟨n, d, rfl, _⟩ := h
    rfl
  · obtain ⟨n, d, rfl, hn, d0, d6, q⟩ := h
    refine ⟨_, (pss_cons (ps_set (i := 2) sc_how_many.nd rfl (Or.inl rfl) pe_int)
      (Evl.pss_cut (ps_for PassesOwn.never rfl (pi_range2 (by rfl) T.z_range (pa_cons pe_int (pa_cons (pe_op op_add (pv 0) pe_int) pa_nil))) (pg_name (i := 3) sc_how_many.nd rfl (Or.inl rfl))
        (pss_one (ps_set (i := 2) sc_how_many.nd rfl (Or.inl rfl) (pe_op op_fdivN (pe_op op_mul (pv 2) (pe_op op_add (pv 1) (pv 3))) (pv 3)))))
      (pss_one (ps_ret (pv 2))))), ?_⟩
    refine ⟨fun σ H' => (∃ y3, σ = [some (.int n), some (.int d), some (.int (hm d n)), y3]) ∧ H' = H, ?_, ?_⟩
    · refine ⟨.int (n : Int), rfl, _, _, rfl, rfl, 1, (n : Int) + 1, rfl, ⟨by omega, by omega, by omega, by omega⟩, ?_⟩
      refine for_range (lo := 1) (n := ((n : Int) + 1 - 1).toNat) (fun i σ H' => (∃ y3, σ = [some (.int n), some (.int d), some (.int (hm d i)), y3]) ∧ H' = H) ⟨⟨_, rfl⟩, rfl⟩ (fun i σ H' hi h => ?_) (fun σ H' h => ?_)
      · obtain ⟨⟨y3, rfl⟩, rfl⟩ := h
        refine ⟨.int (hm d i), rfl, .int d, rfl, .int (1 + (i : Int)), rfl, _, _, rfl, rfl, _, _, rfl, rfl, .inr ⟨by omega, by omega⟩, .int (1 + (i : Int)), rfl, _, _, rfl, rfl, ⟨by omega, by omega⟩, ⟨_, rfl⟩, rfl⟩
      · have e : ((n : Int) + 1 - 1).toNat = n := by omega
        rw [e] at h
        exact h
    · rintro σ H' ⟨⟨y3, rfl⟩, rfl⟩
      exact ⟨_, rfl, q⟩

/-! ### single, same_map, put_back, behind -/
theorem ok_single {k : Nat} (T : Txt K mg) : FnOk P w K mg base CX0 (k + 1) T.f_single T.fd_single ["many", "at"] (sp_single K) := by
  refine T.F_single.ok sc_single (fun vs H Q E h => ?_) (fun cdv A outer s H vs Q E hr h => ?_)
  · obtain ⟨m, k, F, rfl, _⟩ := h
    rfl
  · obtain ⟨m, k, F, rfl, hF, hm, q⟩ := h
    refine ⟨_, (pss_one (ps_ret (pe_callTy (call_tupleK (K := K)) (by rfl) T.z_tuple bt_tuple (pa_cons (pe_lc (own := [("k", 2)]) (g := gName 2) (tt := tYes) rfl sc_single.nd (pi_range1 (by rfl) T.z_range (pa_cons (pv 0) pa_nil)) (blkOk_by (own := [("k", 2)]) (N := nm_single) (sc := defScope st_single) (by decide +kernel)) (fun _ _ _ _ _ => (pg_name (i := 2) sc_single.nd rfl (Or.inl rfl))) (fun _ _ _ _ _ => pts_nil) (fun _ _ _ _ _ => (pe_callTy call_int1 (by rfl) T.z_int bt_int (pa_cons (pe_cmpR op_eq (pv 2) (pv 1) (nomark _)) pa_nil)))) pa_nil)))), ?_⟩
    refine ⟨.int (m : Int), rfl, (m : Int), rfl, by omega, by omega, fun D nD => ?_⟩
    have nDF : F D = none := sub_none hF nD
    refine lc_range (lo := 0) (n := (m : Int).toNat) (fun j H' => Gr NoS F H F H' ∧ H' D = some (.lst (((sg m k).take j).map V.int))) ⟨(Gr.refl hF).newm nD, upd_same⟩ (fun j H' hj h => ?_) (fun H' h => ?_)
    · obtain ⟨g, hD⟩ := h
      have hjm : j < m := by omega
      have z0 : (0 : Int) + (j : Int) = j := by omega
      refine ⟨rfl, .int (0 + (j : Int)), rfl, .int (k : Int), rfl, rfl, .inr ⟨_, rfl, _, hD, ?_, g.mut nD nDF, ?_⟩⟩
      · rw [List.length_map, List.length_take]
        exact small1000 (by omega)
      · have e : (sg m k)[j]? = some (if j = k then (1 : Int) else 0) := by
          unfold sg
          rw [List.getElem?_map, List.getElem?_range hjm]
          rfl
        have e2 : (if decide ((V.int (0 + (j : Int))) = V.int (k : Int)) = true then (1 : Int) else 0) = if j = k then (1 : Int) else 0 := by
          rw [z0]
          by_cases h : j = k
          · rw [if_pos h, h, if_pos (decide_eq_true rfl)]
          · rw [if_neg h, if_neg]
            intro hh
            have := of_decide_eq_true hh
            cases this
            exact h rfl
        rw [upd_same, List.take_add_one, e, List.map_append, e2]
        rfl
    · obtain ⟨g, hD⟩ := h
      rw [List.take_of_length_le (by rw [sg_len]; omega)] at hD
      exact q.tuple g hD (DpAll.ints _)
theorem ok_same_map {k : Nat} (T : Txt K mg) : FnOk P w K mg base CX0 (k + 2) T.f_same_map T.fd_same_map ["n", "d"] (sp_same_map K) := by
  have G_how_many : FnOk P w K mg base CX0 1 T.f_how_many T.fd_how_many ["n", "d"] sp_how_many := ok_how_many T
  have G_single : FnOk P w K mg base CX0 1 T.f_single T.fd_single ["many", "at"] (sp_single K) := ok_single T
  refine T.F_same_map.ok sc_same_map (fun vs H Q E h => ?_) (fun cdv A outer s H vs Q E hr h => ?_)
  · obtain ⟨n, m, d, F, rfl, _⟩ := h
    rfl
  · obtain ⟨n, m, d, F, rfl, hF, hn, d0, d6, hhm, hm, q⟩ := h
    refine ⟨_, (pss_cons (ps_set (i := 2) sc_same_map.nd rfl (Or.inr rfl) (pe_call G_how_many (hr.mono (by omega)) (by rfl) T.g_how_many T.F_how_many.kp T.b_how_many .nil pass0 (pa_cons (pv 0) (pa_cons (pv 1) pa_nil))))
      (pss_one (ps_ret (pe_callTy (call_tupleK (K := K)) (by rfl) T.z_tuple bt_tuple (pa_cons (pe_lc (own := [("at", 3)]) (g := gName 3) (tt := tYes) rfl sc_same_map.nd (pi_range1 (by rfl) T.z_range (pa_cons (pv 2) pa_nil)) (blkOk_by (own := [("at", 3)]) (N := nm_same_map) (sc := defScope st_same_map) (by decide +kernel)) (fun _ _ _ _ _ => (pg_name (i := 3) sc_same_map.nd rfl (Or.inl rfl))) (fun _ _ _ _ _ => pts_nil) (fun _ _ _ _ _ => (pe_call G_single (hr.mono (by omega)) (by rfl) T.g_single T.F_single.kp T.b_single .nil pass0 (pa_cons (pv 2) (pa_cons (pv 3) pa_nil))))) pa_nil))))), ?_⟩
    refine ⟨.int (n : Int), rfl, .int d, rfl, n, d, rfl, hn, d0, d6, ?_⟩
    rw [hhm]
    refine ⟨.int (m : Int), rfl, (m : Int), rfl, by omega, by omega, fun D nD => ?_⟩
    have nDF : F D = none := sub_none hF nD
    refine lc_range (lo := 0) (n := (m : Int).toNat) (fun j H' => ∃ F' xs, Gr NoS F H F' H' ∧ F' D = none ∧ H' D = some (.lst xs) ∧ DpAll K F' xs (((sm m).take j).map ti)) ⟨F, [], (Gr.refl hF).newm nD, nDF, upd_same, .nil⟩ (fun j H' hj h => ?_) (fun H' h => ?_)
    · obtain ⟨F', xs, g, nf, hD, hx⟩ := h
      have hjm : j < m := by omega
      have z0 : (0 : Int) + (j : Int) = j := by omega
      refine ⟨rfl, .int (m : Int), rfl, .int (0 + (j : Int)), rfl, m, j, F', by rw [z0]; rfl, g.sub, by omega, fun v F2 H2 g2 hv => ?_⟩
      obtain ⟨nf2, hD2⟩ := g2.keepm (fun h => h) nf hD
      refine ⟨xs, hD2, ?_, F2, xs ++ [v], (g.trans g2).mut nD nf2, nf2, upd_same, ?_⟩
      · rw [DpAll.length hx, List.length_map, List.length_take]
        exact small1000 (by omega)
      · have e : (sm m)[j]? = some (sg m j) := by
          unfold sm
          rw [List.getElem?_map, List.getElem?_range hjm]
          rfl
        rw [List.take_add_one, e, List.map_append]
        exact (hx.ex g2.fz).snoc hv
    · obtain ⟨F', xs, g, nf, hD, hx⟩ := h
      rw [List.take_of_length_le (by rw [sm_len]; omega)] at hx
      exact q.tuple g hD hx

/-! ### _law_alike -/
theorem ty_tuple {K : PySem.W.Frag} {H : Hp} {a : Addr} {xs : List V} (h : SqT K H a xs) : TyX K H (.ref a) (.type "tuple") := by
  rcases h with (h | ⟨o, h⟩) | ⟨o, its, n, h1, h2, _⟩
  · exact .base (.tup h)
  · exact .fTuple h
  · exact .kTuple h1 h2
theorem ty_ints {K : PySem.W.Frag} {H : Hp} {i : Int} : TyX K H (.int i) (.type "int") := .base (.int i)
theorem ok_alike (T : Txt K mg) : ∀ (n k : Nat), FnOk P w K mg base CX0 (k + n) T.f__law_alike T.fd__law_alike ["_law_found", "_law_due_here"] (spA K n)
  | 0, k => ⟨fun _ _ _ _ h => h.elim, fun _ _ _ _ _ _ _ _ _ _ _ _ _ h => h.elim⟩
  | n + 1, k => by
    have G__law_alike : FnOk P w K mg base CX0 (0 + n) T.f__law_alike T.fd__law_alike ["_law_found", "_law_due_here"] (spA K n) := ok_alike T n 0
    refine T.F__law_alike.ok (k := k + n) sc__law_alike (fun vs H Q E h => ?_) (fun cdv A outer s H vs Q E hr h => ?_)
    · obtain ⟨v1, v2, d, F, rfl, _⟩ := h
      rfl
    · obtain ⟨v1, v2, d, F, rfl, hF, h1, h2, hal, q⟩ := h
      refine ⟨_, (pss_cons (ps_if (PW.pt (pw_or (pt_val (pe_callB (call_isiK' (K := K)) (by rfl) T.z_isinstance bt_isinstance (pa_cons (pv 1) (pa_cons (pe_bltn (v := .ty "tuple") (by rfl) T.z_tuple (by decide +kernel) rfl) pa_nil)))) (pw_or1 (pt_val (pe_callB (call_isiK' (K := K)) (by rfl) T.z_isinstance bt_isinstance (pa_cons (pv 0) (pa_cons (pe_bltn (v := .ty "tuple") (by rfl) T.z_tuple (by decide +kernel) rfl) pa_nil))))))) (pss_cons (ps_if (PW.pt (pw_or (pt_not (pt_val (pe_callB (call_isiK' (K := K)) (by rfl) T.z_isinstance bt_isinstance (pa_cons (pv 0) (pa_cons (pe_bltn (v := .ty "tuple") (by rfl) T.z_tuple (by decide +kernel) rfl) pa_nil))))) (pw_or (pt_not (pt_val (pe_callB (call_isiK' (K := K)) (by rfl) T.z_isinstance bt_isinstance (pa_cons (pv 1) (pa_cons (pe_bltn (v := .ty "tuple") (by rfl) T.z_tuple (by decide +kernel) rfl) pa_nil))))) (pw_or1 (pt_cmpR op_ne (pe_callB (call_lenK (K := K)) (by rfl) T.z_len bt_len (pa_cons (pv 0) pa_nil)) (pe_callB (call_lenK (K := K)) (by rfl) T.z_len bt_len (pa_cons (pv 1) pa_nil)) (nomark _)))))) (pss_one (ps_ret pe_bl)) pss_nil)
        (pss_one (ps_ret (pe_callB (cr_allK (K := K) rfl) (by rfl) T.z_all bt_all (pa_cons (pe_lc (own := [("_law_one", 2), ("_law_other", 3)]) (g := gTup K 2 (gCons (gName 2) (gCons (gName 3) gNil))) (tt := tYes) rfl sc__law_alike.nd (pi_zipM .T .T (K := K) (by rfl) T.z_zip (pa_cons (pv 0) (pa_cons (pv 1) pa_nil))) (blkOk_by (own := [("_law_one", 2), ("_law_other", 3)]) (N := nm__law_alike) (sc := defScope st__law_alike) (by decide +kernel)) (fun _ _ _ _ _ => (pg_tupK (K := K) rfl (pgs_cons (pg_name (i := 2) sc__law_alike.nd rfl (Or.inl rfl)) (pgs_cons (pg_name (i := 3) sc__law_alike.nd rfl (Or.inl rfl)) pgs_nil)))) (fun _ _ _ _ _ => pts_nil) (fun _ _ _ _ _ => (pe_call G__law_alike (hr.mono (by omega)) (by rfl) T.g__law_alike T.F__law_alike.kp T.b__law_alike .nil pass0 (pa_cons (pv 2) (pa_cons (pv 3) pa_nil))))) pa_nil))))) pss_nil)
      (pss_one (ps_ret (pe_and (pe_cmpR (op_eqDK (K := K) hr.units) (pv 0) (pv 1) (nomark _)) (pe_one (pe_cmpR op_eq (pe_callB (call_isiK' (K := K)) (by rfl) T.z_isinstance bt_isinstance (pa_cons (pv 0) (pa_cons (pe_bltn (v := .ty "bool") (by rfl) T.z_bool (by decide +kernel) rfl) pa_nil))) (pe_callB (call_isiK' (K := K)) (by rfl) T.z_isinstance bt_isinstance (pa_cons (pv 1) (pa_cons (pe_bltn (v := .ty "bool") (by rfl) T.z_bool (by decide +kernel) rfl) pa_nil))) (nomark _))))))), ?_⟩
      cases n with
      | zero =>
        obtain ⟨i, rfl⟩ := hal
        cases h1.int_inv
        cases h2.int_inv
        refine ⟨.int i, rfl, .int i, .ty "tuple", .type "int", .type "tuple", false, rfl, .ty _, .base (.int i), kit_ty (by decide +kernel), false, rfl, iteF ?_⟩
        refine ⟨.int i, rfl, .int i, .ty "tuple", .type "int", .type "tuple", false, rfl, .ty _, .base (.int i), kit_ty (by decide +kernel), false, rfl, iteF ?_⟩
        refine ⟨.int i, rfl, .int i, rfl, _, _, .int i, .int i, rfl, rfl, _, rfl, ?_⟩
        rw [eqv_refl _ rfl]
        refine iteT ?_
        refine ⟨.int i, rfl, .int i, .ty "bool", .type "int", .type "bool", false, rfl, .ty _, .base (.int i), kit_ty (by decide +kernel), ?_⟩
        refine ⟨.int i, rfl, .int i, .ty "bool", .type "int", .type "bool", false, rfl, .ty _, .base (.int i), kit_ty (by decide +kernel), rfl, ?_⟩
        exact q _ (Evl.Ex.refl _)
      | succ n =>
        obtain ⟨ds, rfl, hdl, hds⟩ := hal
        obtain ⟨a, xs, rfl, ha, hxs⟩ := Dp.tup_inv h1
        obtain ⟨b, ys, rfl, hb, hys⟩ := Dp.tup_inv h2
        have haH := ex_T hF ha
        have hbH := ex_T hF hb
        have hxl := DpAll.length hxs
        have hyl := DpAll.length hys
        refine ⟨.ref b, rfl, .ref b, .ty "tuple", .type "tuple", .type "tuple", true, rfl, .ty _, ty_tuple hbH, kit_ty (by decide +kernel), true, rfl, iteT ?_⟩
        refine ⟨.ref a, rfl, .ref a, .ty "tuple", .type "tuple", .type "tuple", true, rfl, .ty _, ty_tuple haH, kit_ty (by decide +kernel), true, rfl, iteF ?_⟩
        refine ⟨.ref b, rfl, .ref b, .ty "tuple", .type "tuple", .type "tuple", true, rfl, .ty _, ty_tuple hbH, kit_ty (by decide +kernel), true, rfl, iteF ?_⟩
        refine ⟨.ref a, rfl, a, _, rfl, .inr haH, .ref b, rfl, b, _, rfl, .inr hbH, rfl, _, rfl, ?_⟩
        rw [hxl, hyl, decide_eq_true rfl]
        refine iteF ?_
        have hN : ds.length = min xs.length ys.length := by rw [hxl, hyl, Nat.min_self]
        refine ⟨.ref a, rfl, .ref b, rfl, a, b, xs, ys, rfl, haH, hbH, fun D nD => ?_⟩
        refine lc_it (walk_zipM hN) (fun i H' => Ex H H' ∧ H' D = some (.lst ((List.replicate i true).map V.bl))) ⟨Evl.Ex.new nD, upd_same⟩ (fun j H' _ h => ⟨ex_T h.1 haH, ex_T h.1 hbH⟩) (fun i x H' H'' hi h hy => ?_) (fun H' h => ?_)
        · obtain ⟨t, v1, v2, rfl, nt, rfl, e1, e2⟩ := hy
          obtain ⟨d1, ed1, hd1⟩ := DpAll.get hxs e1
          obtain ⟨d2, ed2, hd2⟩ := DpAll.get hys e2
          rw [ed1] at ed2
          cases ed2
          have xt := Evl.Ex.new (o := .tup [v1, v2]) nt
          refine ⟨t, _, rfl, SqT.of upd_same, rfl, _, _, rfl, _, [], rfl, rfl, ?_⟩
          refine ⟨rfl, v1, rfl, v2, rfl, v1, v2, d1, F, rfl, (hF.trans h.1).trans xt, hd1, hd2, hds d1 (List.mem_of_getElem? ed1), fun H9 x9 => ⟨_, x9 _ _ (xt _ _ h.2), ?_, Evl.Ex.mut ((h.1.trans xt).trans x9) nD, ?_⟩⟩
          · rw [List.length_map, List.length_replicate]
            exact small1000 (by omega)
          · rw [upd_same, List.replicate_succ', List.map_append]
            rfl
        · refine ⟨D, _, rfl, SqL.of h.2, ?_⟩
          have e : (List.replicate ds.length true).all id = true := by simp
          rw [e]
          exact q _ h.1
def sp_alike (K : PySem.W.Frag) : Sp := fun vs H Q E => spA K 2 vs H Q E ∨ spA K 3 vs H Q E
theorem ok_alike23 (T : Txt K mg) : FnOk P w K mg base CX0 3 T.f__law_alike T.fd__law_alike ["_law_found", "_law_due_here"] (sp_alike K) := by
  have A1 : FnOk P w K mg base CX0 3 T.f__law_alike T.fd__law_alike ["_law_found", "_law_due_here"] (spA K 3) := ok_alike T 3 0
  have A2 : FnOk P w K mg base CX0 3 T.f__law_alike T.fd__law_alike ["_law_found", "_law_due_here"] (spA K 2) := ok_alike T 2 1
  exact ⟨fun _ _ _ _ h => h.elim (A2.1 _ _ _ _) (A1.1 _ _ _ _), fun a b c d e f g h i j k l m n => n.elim (A2.2 a b c d e f g h i j k l m) (A1.2 a b c d e f g h i j k l m)⟩

/-! ### numbers and maps drawn -/
def sp_numberM : Sp := fun vs H Q _ => ∃ (d l : Addr), vs = [.ref d] ∧ IsDeal H d l ∧ ∀ (x : Int) (H' : Hp), -1000000 ≤ x → x ≤ 1000000 → IsDeal H' d l → Kp d l H H' → Q (.int x) H'
theorem ok_numberM {k : Nat} (T : Txt K mg) : FnOk P w K mg base CX0 (k + 2) T.f__law_number T.fd__law_number ["_law_deal_here"] sp_numberM := by
  have G__law_draw : FnOk P w K mg base CX0 1 T.f__law_draw T.fd__law_draw ["_law_deal_here", "_law_many"] sp_draw := ok_draw T
  refine T.F__law_number.ok sc__law_number (fun vs H Q E h => ?_) (fun cdv A outer s H vs Q E hr h => ?_)
  · obtain ⟨d, l, rfl, _⟩ := h
    rfl
  · obtain ⟨d, l, rfl, D, q⟩ := h
    refine ⟨_, (pss_cons (ps_set (i := 1) sc__law_number.nd rfl (Or.inl rfl) (pe_ix (ix_listK (K := K)) (pe_lst (pa_cons pe_int (pa_cons pe_int (pa_cons (pe_op op_pow pe_int pe_int) pa_nil)))) (pe_call G__law_draw (hr.mono (by omega)) (by rfl) T.g__law_draw T.F__law_draw.kp T.b__law_draw .nil pass0 (pa_cons (pv 0) (pa_cons pe_int pa_nil))) (fun _ _ => rfl)))
      (pss_one (ps_ret (pe_op op_sub (pe_call G__law_draw (hr.mono (by omega)) (by rfl) T.g__law_draw T.F__law_draw.kp T.b__law_draw .nil pass0 (pa_cons (pv 0) (pa_cons (pe_op op_add (pe_op op_mul pe_int (pv 1)) pe_int) pa_nil))) (pv 1))))), ?_⟩
    refine ⟨_, _, rfl, rfl, ⟨by decide, by decide, by decide⟩, by show 3 ≤ sizeLine; decide, fun p np => ?_⟩
    obtain ⟨n1, n2⟩ := D.nd np
    refine ⟨.ref d, rfl, d, l, 3, rfl, D.upd n1 n2, by decide, by decide, fun r H1 r0 r1 D1 k1 => ?_⟩
    obtain ⟨v, ev, hv⟩ := at_in (xs := [.int 2, .int 9, .int (10 ^ (6 : Int).toNat)]) r0 (by simpa using r1)
    obtain ⟨y, rfl, y0, y1⟩ : ∃ y, v = .int y ∧ 0 ≤ y ∧ y ≤ 1000000 := by
      simp only [List.mem_cons, List.not_mem_nil, or_false] at hv
      rcases hv with rfl | rfl | rfl
      · exact ⟨_, rfl, by decide, by decide⟩
      · exact ⟨_, rfl, by decide, by decide⟩
      · exact ⟨_, rfl, by decide, by decide⟩
    refine ⟨p, _, r, _, rfl, rfl, SqL.of (k1 p _ n1 n2 upd_same), ev, ?_⟩
    refine ⟨.ref d, rfl, .int y, rfl, _, _, rfl, rfl, .inl ⟨by decide, by decide⟩, _, _, rfl, rfl, d, l, _, rfl, D1, by omega, by omega, fun r2 H2 s0 s1 D2 k2 => ?_⟩
    exact ⟨.int y, rfl, _, _, rfl, rfl, q _ _ (by omega) (by omega) D2 (((Kp.of_ex (Evl.Ex.new np)).trans k1).trans k2)⟩
abbrev Mil (r : List Int) : Prop := ∀ x ∈ r, -1000000 ≤ x ∧ x ≤ 1000000
/-- a row of no greater degree than p -/
def RowOk (n : Nat) (dg : Int) (p rs : List Int) : Prop := ∀ (j : Nat) (x : Int) (pj : List Int), rs[j]? = some x → (prods n dg)[j]? = some pj → x ≠ 0 → pj.sum ≤ p.sum
theorem RowOk.snoc {n : Nat} {dg : Int} {p rs : List Int} {x : Int} (h : RowOk n dg p rs) (k : ∀ pj, (prods n dg)[rs.length]? = some pj → x ≠ 0 → pj.sum ≤ p.sum) : RowOk n dg p (rs ++ [x]) := fun j y pj ey ej ny => by
  by_cases hj : j < rs.length
  · rw [List.getElem?_append_left hj] at ey
    exact h j y pj ey ej ny
  · have hlt := (List.getElem?_eq_some_iff.mp ey).1
    rw [List.length_append] at hlt
    have hj2 : j = rs.length := by
      simp at hlt
      omega
    subst hj2
    rw [List.getElem?_append_right (Nat.le_refl _), Nat.sub_self] at ey
    have : x = y := by simpa using ey
    subst this
    exact k pj ej ny
def RowsOk (n : Nat) (dg : Int) (rows : List (List Int)) : Prop := ∀ (i : Nat) (p row : List Int), (prods n dg)[i]? = some p → rows[i]? = some row → RowOk n dg p row
def sp_lmap (K : PySem.W.Frag) : Sp := fun vs H Q _ => ∃ (d l : Addr) (n : Nat) (dg : Int) (F : Hp), vs = [.ref d, .int (n : Int), .int dg] ∧ Wr d l F H ∧ n ≤ 6 ∧ 0 ≤ dg ∧ dg ≤ 6 ∧ (prods n dg).length ≤ 1000 ∧
  ∀ v F' H' M, Wr d l F' H' → Nf F H F' → Kp d l H H' → Dp K F' v (tti M) → M.length = (prods n dg).length → (∀ r ∈ M, r.length = (prods n dg).length ∧ Mil r) → RowsOk n dg M → Q v H'
theorem ok_lmap {k : Nat} (T : Txt K mg) : FnOk P w K mg base CX0 (k + 3) T.f__law_map T.fd__law_map ["_law_deal_here", "_law_n", "_law_d"] (sp_lmap K) := by
  have G__law_draw : FnOk P w K mg base CX0 1 T.f__law_draw T.fd__law_draw ["_law_deal_here", "_law_many"] sp_draw := ok_draw T
  have G__law_number : FnOk P w K mg base CX0 2 T.f__law_number T.fd__law_number ["_law_deal_here"] sp_numberM := ok_numberM T
  have G__law_products : FnOk P w K mg base CX0 1 T.f__law_products T.fd__law_products ["_law_n", "_law_d"] sp_productsT := ok__law_products T
  refine T.F__law_map.ok sc__law_map (fun vs H Q E h => ?_) (fun cdv A outer s H vs Q E hr h => ?_)
  · obtain ⟨d, l, n, dg, F, rfl, _⟩ := h
    rfl
  · obtain ⟨d, l, n, dg, F, rfl, W0, hn, d0, d6, hpn, q⟩ := h
    have hm := hn
    have hpm := hpn
    refine ⟨_, (pss_cons (ps_set (i := 3) sc__law_map.nd rfl (Or.inl rfl) (pe_lst pa_nil))
      (Evl.pss_cut (ps_for PassesOwn.never rfl (pi_listK (K := K) (pe_call G__law_products (hr.mono (by omega)) (by rfl) T.g__law_products T.F__law_products.kp T.b__law_products .nil pass0 (pa_cons (pv 1) (pa_cons (pv 2) pa_nil)))) (pg_name (i := 4) sc__law_map.nd rfl (Or.inr rfl))
        (pss_cons (ps_setLc (i := 5) (own := [("_law_one", 6)]) (g := gName 6) (tt := tYes) rfl sc__law_map.nd rfl rfl (sw_true rfl rfl rfl (by decide +kernel)) (pi_listK (K := K) (pe_call G__law_products (hr.mono (by omega)) (by rfl) T.g__law_products T.F__law_products.kp T.b__law_products .nil pass0 (pa_cons (pv 1) (pa_cons (pv 2) pa_nil)))) (blkOk_by (own := [("_law_one", 6)]) (N := nm__law_map) (sc := defScope st__law_map) (by decide +kernel)) (fun _ _ _ _ _ => (pg_name (i := 6) sc__law_map.nd rfl (Or.inl rfl))) (fun _ _ _ _ _ => pts_nil) (fun _ _ _ _ _ => (pe_op op_mul (pe_call G__law_number (hr.mono (by omega)) (by rfl) T.g__law_number T.F__law_number.kp T.b__law_number .nil pass0 (pa_cons (pv 0) pa_nil)) (pe_callTy call_int1 (by rfl) T.z_int bt_int (pa_cons (pe_cmpR op_le (pe_callB (cr_sumT (K := K) rfl) (by rfl) T.z_sum bt_sum (pa_cons (pv 6) pa_nil)) (pe_callB (cr_sumT (K := K) rfl) (by rfl) T.z_sum bt_sum (pa_cons (pv 4) pa_nil)) (nomark _)) pa_nil)))))
        (pss_one (ps_expr (pe_bmK (K := K) PySem.F.plainAttrs_list PySem.F.slot_list_append PySem.F.type_list_append mt_append (pv 3) (pa_cons (pe_callTy (call_tupleK (K := K)) (by rfl) T.z_tuple bt_tuple (pa_cons (pe_lc (own := [("_law_number_here", 7)]) (g := gName 7) (tt := tYes) rfl sc__law_map.nd (pi_listK (K := K) (pv 5)) (blkOk_by (own := [("_law_number_here", 7)]) (N := nm__law_map) (sc := defScope st__law_map) (by decide +kernel)) (fun _ _ _ _ _ => (pg_name (i := 7) sc__law_map.nd rfl (Or.inl rfl))) (fun _ _ _ _ _ => pts_nil) (fun _ _ _ _ _ => (pe_ix (ix_listK (K := K)) (pe_lst (pa_cons pe_int (pa_cons (pv 7) pa_nil))) (pe_callTy call_int1 (by rfl) T.z_int bt_int (pa_cons (pe_cmpR op_gt (pe_call G__law_draw (hr.mono (by omega)) (by rfl) T.g__law_draw T.F__law_draw.kp T.b__law_draw .nil pass0 (pa_cons (pv 0) (pa_cons pe_int pa_nil))) pe_int (nomark _)) pa_nil)) (fun _ _ => rfl)))) pa_nil)) pa_nil))))))
      (pss_one (ps_ret (pe_callTy (call_tupleK (K := K)) (by rfl) T.z_tuple bt_tuple (pa_cons (pv 3) pa_nil)))))), ?_⟩
    refine ⟨Nat.zero_le _, fun pf npf => ?_⟩
    have nFf : F pf = none := sub_none W0.sub npf
    have npfd := W0.ne npf
    have W1 : Wr d l F (upd H pf (.lst [])) := W0.newm npf
    have K1 : Kp d l H (upd H pf (.lst [])) := Kp.of_ex (Evl.Ex.new npf)
    refine ⟨fun σ H' => ∃ F' xs, ∃ rows : List (List Int), ∃ y5 y6 y7 y8, σ = [some (.ref d), some (.int n), some (.int dg), some (.ref pf), y5, y6, y7, y8] ∧ Wr d l F' H' ∧ Nf F H F' ∧ Kp d l H H' ∧ H' pf = some (.lst xs) ∧ DpAll K F' xs (rows.map ti) ∧ rows.length = (prods n dg).length ∧ (∀ r ∈ rows, r.length = (prods n dg).length ∧ Mil r) ∧ RowsOk n dg rows, ?_, ?_⟩
    · refine ⟨.int n, rfl, .int dg, rfl, n, dg, F, rfl, W1.sub, hn, d0, d6, fun p2 xs2 F15 H15 np2 g15 nF15 hp2 hd2 => ?_⟩
      have W15 := W1.gr g15
      have K15 := K1.trans g15.toKp
      obtain ⟨nm15, hm15⟩ := g15.keepm (fun h => h) nFf upd_same
      have np2d := W1.ne np2
      have hxl2 : xs2.length = (prods n dg).length := hd2.length
      have hne2 : p2 ≠ pf := fun e => by rw [e, upd_same] at np2; cases np2
      refine ⟨p2, rfl, ⟨_, SqL.of hp2⟩, for_list (K := K) (a := p2) (xs := xs2) (fun j σ H' => ∃ F' xs, ∃ rows : List (List Int), ∃ y5 y6 y7 y8, σ = [some (.ref d), some (.int n), some (.int dg), some (.ref pf), y5, y6, y7, y8] ∧ Wr d l F' H' ∧ Kp d l H H' ∧ Ex F15 F' ∧ Nf F H F' ∧ F' p2 = none ∧ H' p2 = some (.lst xs2) ∧ F' pf = none ∧ H' pf = some (.lst xs) ∧ DpAll K F' xs (rows.map ti) ∧ rows.length = j ∧ (∀ r ∈ rows, r.length = (prods n dg).length ∧ Mil r) ∧ RowsOk n dg rows) ⟨F15, [], [], _, _, _, _, rfl, W15, K15, Evl.Ex.refl _, Nf.refl.gr W1 K1 g15, nF15, hp2, nm15, hm15, .nil, rfl, fun r hr => (by cases hr), fun i p row _ e => by simp at e⟩ (fun j σ H' _ h => ?_) (fun j x σ H' hx h => ?_) (fun σ H' h => ?_)⟩
      · obtain ⟨F', xs, rows, _, _, _, _, _, _, _, _, _, _, h, _⟩ := h
        exact SqL.of h
      · obtain ⟨F16, xs, rows, y5, y6, y7, y8, rfl, W16, K16, x16, nf16, nF16, hp16, nm16, hm16, hrows, elr, hrl2, hrok⟩ := h
        obtain ⟨pr, ep, b, rfl, hb3'⟩ := hd2.get hx
        have hb3 : SqT K F15 b (pr.map V.int) := SqT.of hb3'
        have hb16 := ex_T x16 hb3
        have hjl : j < (prods n dg).length := (List.getElem?_eq_some_iff.mp ep).1
        -- row
        refine ⟨.int n, rfl, .int dg, rfl, n, dg, F16, rfl, W16.sub, hm, d0, d6, fun p3 xs3 F17 H17 np3 g17 nF17 hp3 hd3 => ?_⟩
        have W17 := W16.gr g17
        have K17 := K16.trans g17.toKp
        obtain ⟨nm17, hm17⟩ := g17.keepm (fun h => h) nm16 hm16
        obtain ⟨np17, hp17⟩ := g17.keepm (fun h => h) nF16 hp16
        have np3d := W16.ne np3
        have hxl3 : xs3.length = (prods n dg).length := hd3.length
        refine ⟨p3, rfl, ⟨_, SqL.of hp3⟩, fun D nD => ?_⟩
        have nDd := W17.ne nD
        have neD3 : p3 ≠ D := ne_of_none hp3 nD
        refine lc_list (K := K) (a := p3) (xs := xs3) (fun i H' => ∃ rs : List Int, Wr d l F17 H' ∧ Kp d l H17 H' ∧ H' p3 = some (.lst xs3) ∧ H' D = some (.lst (rs.map V.int)) ∧ rs.length = i ∧ Mil rs ∧ RowOk n dg pr rs) ⟨[], W17.newm nD, Kp.of_ex (Evl.Ex.new nD), by rw [upd_ne neD3]; exact hp3, upd_same, rfl, fun x hx => (by cases hx), fun j x pj e => by simp at e⟩ (fun i H' _ h => ?_) (fun i x H' hx h => ?_) (fun H18 h => ?_)
        · obtain ⟨rs, _, _, h, _⟩ := h
          exact SqL.of h
        · obtain ⟨rs, Wa, ka, hpa, hDa, elrs, hrs, hro⟩ := h
          obtain ⟨pr4, ep4, c, rfl, hc4'⟩ := hd3.get hx
          have hc4 : SqT K F17 c (pr4.map V.int) := SqT.of hc4'
          have hil : i < (prods n dg).length := (List.getElem?_eq_some_iff.mp ep4).1
          refine ⟨rfl, .ref d, rfl, d, l, rfl, Wa.deal, fun x Hb x0 x1 Db kb => ?_⟩
          have Wb := Wa.draw Db kb
          refine ⟨.ref c, rfl, c, pr4, rfl, ex_T Wb.sub hc4, .ref b, rfl, b, pr, rfl, ex_T Wb.sub (ex_T g17.fz hb16), _, _, rfl, rfl, .inr ⟨_, rfl, _, _, rfl, rfl, .inl ⟨by omega, by omega⟩, _, kb D _ nDd.1 nDd.2 hDa, ?_, rs ++ [x * (if decide (pr4.sum ≤ pr.sum) = true then 1 else 0)], Wb.mut (sub_none W17.sub nD) nDd.1 nDd.2, (ka.trans kb).mut nD, by rw [upd_ne neD3]; exact kb p3 _ np3d.1 np3d.2 hpa, by rw [upd_same, List.map_append]; rfl, by rw [List.length_append, elrs]; rfl, fun y hy => ?_, hro.snoc fun pj ej ny => ?_⟩⟩
          · rw [List.length_map, elrs]
            exact small1000 (by omega)
          · rcases List.mem_append.mp hy with h | h
            · exact hrs y h
            · rw [List.mem_singleton.mp h]
              by_cases hc : decide (pr4.sum ≤ pr.sum) = true
              · rw [if_pos hc]; omega
              · rw [if_neg hc]; omega
          · rw [elrs, ep4] at ej
            cases ej
            by_cases hc : decide (pr4.sum ≤ pr.sum) = true
            · exact of_decide_eq_true hc
            · rw [if_neg hc, Int.mul_zero] at ny
              exact absurd rfl ny
        · obtain ⟨rs, W18, k18, _, hD18, elrs, hrs, hro⟩ := h
          rw [hxl3] at elrs
          have K18 := K17.trans k18
          have hm18 := k18 pf _ npfd.1 npfd.2 hm17
          have hp18 := k18 p2 _ np2d.1 np2d.2 hp17
          refine ⟨.ref pf, rfl, .inl ⟨rfl, _, SqL.of hm18⟩, .ref D, rfl, D, rfl, ⟨_, SqL.of hD18⟩, fun D2 nD2 => ?_⟩
          have nD2d := W18.ne nD2
          have neDD : D ≠ D2 := ne_of_none hD18 nD2
          refine lc_list (K := K) (a := D) (xs := rs.map V.int) (fun i H' => ∃ rs2 : List Int, Wr d l F17 H' ∧ Kp d l H18 H' ∧ H' D = some (.lst (rs.map V.int)) ∧ H' D2 = some (.lst (rs2.map V.int)) ∧ rs2.length = i ∧ Mil rs2 ∧ RowOk n dg pr rs2) ⟨[], W18.newm nD2, Kp.of_ex (Evl.Ex.new nD2), by rw [upd_ne neDD]; exact hD18, upd_same, rfl, fun x hx => (by cases hx), fun j x pj e => by simp at e⟩ (fun i H' _ h => ?_) (fun i x H' hx h => ?_) (fun H19 h => ?_)
          · obtain ⟨rs2, _, _, h, _⟩ := h
            exact SqL.of h
          · obtain ⟨rs2, Wa, ka, hDa, hD2a, elrs2, hrs2, hro2⟩ := h
            obtain ⟨z, ez, rfl⟩ := int_get hx
            have hz := hrs z (List.mem_of_getElem? ez)
            have hil : i < rs.length := (List.getElem?_eq_some_iff.mp ez).1
            refine ⟨rfl, .int z, rfl, by show 2 ≤ sizeLine; decide, fun pq npq => ?_⟩
            have npqd := Wa.ne npq
            have Wb : Wr d l F17 (upd H' pq (.lst [.int 0, .int z])) := Wa.newm npq
            refine ⟨.ref d, rfl, d, l, 3, rfl, Wb.deal, by decide, by decide, fun r Hc r0 r1 Dc kc => ⟨_, _, rfl, rfl, .inr ⟨_, rfl, ?_⟩⟩⟩
            have Wc := Wb.draw Dc kc
            obtain ⟨y, ey, hy⟩ : ∃ y, atI [V.int 0, .int z] (if decide (r > 0) = true then 1 else 0) = some (.int y) ∧ (y = 0 ∨ y = z) := by
              by_cases hc : decide (r > 0) = true
              · rw [if_pos hc]; exact ⟨z, rfl, .inr rfl⟩
              · rw [if_neg hc]; exact ⟨0, rfl, .inl rfl⟩
            have exq := Evl.Ex.new (o := .lst [V.int 0, .int z]) npq
            refine ⟨pq, _, _, _, rfl, rfl, SqL.of (kc pq _ npqd.1 npqd.2 upd_same), ey, _, kc D2 _ nD2d.1 nD2d.2 (exq _ _ hD2a), ?_, rs2 ++ [y], Wc.mut (sub_none W18.sub nD2) nD2d.1 nD2d.2, ((ka.trans (Kp.of_ex exq)).trans kc).mut nD2, by rw [upd_ne neDD]; exact kc D _ nDd.1 nDd.2 (exq _ _ hDa), by rw [upd_same, List.map_append]; rfl, by rw [List.length_append, elrs2]; rfl, fun y' hy' => ?_, hro2.snoc fun pj ej ny => ?_⟩
            · rw [List.length_map, elrs2]
              exact small1000 (by omega)
            · rcases List.mem_append.mp hy' with h | h
              · exact hrs2 y' h
              · rw [List.mem_singleton.mp h]
                rcases hy with rfl | rfl
                · exact ⟨by decide, by decide⟩
                · exact hz
            · rw [elrs2] at ej
              rcases hy with rfl | rfl
              · exact absurd rfl ny
              · exact hro i _ pj ez ej ny
          · obtain ⟨rs2, W19, k19, _, hD2, elrs2, hrs2, hro2⟩ := h
            rw [List.length_map, elrs] at elrs2
            have hm19 := k19 pf _ npfd.1 npfd.2 hm18
            have hp19 := k19 p2 _ np2d.1 np2d.2 hp18
            refine ⟨D2, _, rfl, .inl ⟨SqL.of hD2, fun tt ntt => ?_⟩⟩
            have W21 : Wr d l (upd F17 tt (.tup (rs2.map V.int))) (upd H19 tt (.tup (rs2.map V.int))) := W19.new ntt
            have X21 := Evl.Ex.new (o := .tup (rs2.map V.int)) ntt
            have nFt : F17 tt = none := sub_none W19.sub ntt
            have netp : pf ≠ tt := ne_of_none hm19 ntt
            have netp2 : p2 ≠ tt := ne_of_none hp19 ntt
            have fx := Evl.Ex.new (o := .tup (rs2.map V.int)) nFt
            have nm21 : (upd F17 tt (.tup (rs2.map V.int))) pf = none := by rw [upd_ne netp]; exact nm17
            refine ⟨pf, xs, .ref tt, rfl, rfl, X21 _ _ hm19, ?_, upd F17 tt (.tup (rs2.map V.int)), xs ++ [.ref tt], rows ++ [rs2], _, _, _, _, rfl, W21.mut nm21 npfd.1 npfd.2, ((K18.trans k19).trans (Kp.of_ex X21)).mut npf, (x16.trans g17.fz).trans fx, (nf16.gr W16 K16 g17).new W19 (K18.trans k19) ntt, by rw [upd_ne netp2]; exact np17, by rw [upd_ne hne2]; exact X21 _ _ hp19, nm21, upd_same, ?_, by rw [List.length_append, elr]; rfl, fun r hr => ?_, fun i p row ei er => ?_⟩
            · rw [DpAll.length hrows, List.length_map, elr]
              exact small1000 (by omega)
            · rw [List.map_append]
              exact ((hrows.ex g17.fz).ex fx).snoc (Dp.of_ti (SqT.of upd_same))
            · rcases List.mem_append.mp hr with h | h
              · exact hrl2 r h
              · rw [List.mem_singleton.mp h]; exact ⟨elrs2, hrs2⟩
            · by_cases hi : i < rows.length
              · rw [List.getElem?_append_left hi] at er
                exact hrok i p row ei er
              · have hlt := (List.getElem?_eq_some_iff.mp er).1
                rw [List.length_append] at hlt
                have hi2 : i = rows.length := by
                  simp at hlt
                  omega
                subst hi2
                rw [List.getElem?_append_right (Nat.le_refl _), Nat.sub_self] at er
                have : rs2 = row := by simpa using er
                subst this
                rw [elr, ep] at ei
                cases ei
                exact hro2
      · obtain ⟨F16, xs, rows, y5, y6, y7, y8, rfl, W16, K16, x16, nf16, nF16, hp16, nm16, hm16, hrows, elr, hrl2, hrok⟩ := h
        exact ⟨F16, xs, rows, _, _, _, _, rfl, W16, nf16, K16, hm16, hrows, by rw [elr, hxl2], hrl2, hrok⟩
    · rintro σ H' ⟨F', xs, rows, y5, y6, y7, y8, rfl, Wa, xa, Ka, hpf, hrows, erl, hrl, hrok⟩
      refine ⟨.ref pf, rfl, pf, _, rfl, .inl ⟨SqL.of hpf, fun ts nts => ?_⟩⟩
      have nFt := sub_none Wa.sub nts
      have fx := Evl.Ex.new (o := .tup xs) nFt
      exact q _ _ _ rows (Wa.new nts) (xa.new Wa Ka nts) (Ka.trans (Kp.of_ex (Evl.Ex.new nts))) (.tup (SqT.of upd_same) (hrows.ex fx)) erl hrl hrok

/-! ### the law -/
def sp_law (K : PySem.W.Frag) : Sp := fun vs H Q _ => ∃ (a : Addr) (ns : List Int), vs = [.ref a] ∧ SqL K H a (ns.map V.int) ∧ ns.length ≤ 63 ∧ ∀ H', Q (.bl true) H'
theorem cnt1 : ∀ n : Fin 4, hm 1 n.val ≤ 10 := by decide +kernel
theorem cntr : ∀ n : Fin 4, ∀ d : Fin 5, hm (d.val : Int) n.val = ((raw (d.val : Int) n.val).length : Int) := by decide +kernel
theorem cntm : ∀ n s : Fin 4, ∀ d : Fin 5, s.val ≤ n.val → (raw (d.val : Int) s.val).length ≤ (raw (d.val : Int) n.val).length := by decide +kernel
theorem cnt_raw {n : Nat} {d : Int} (hn : n < 4) (d1 : 1 ≤ d) (d4 : d ≤ 4) : hm d n = ((prods n d).length : Int) := by
  have h := cntr ⟨n, hn⟩ ⟨d.toNat, by omega⟩
  simp only [Int.toNat_of_nonneg (show 0 ≤ d by omega)] at h
  rw [prods_len]
  exact h
theorem cnt_le {n s : Nat} {d : Int} (hn : n < 4) (hs : s ≤ n) (d1 : 1 ≤ d) (d4 : d ≤ 4) : (prods s d).length ≤ (prods n d).length := by
  have h := cntm ⟨n, hn⟩ ⟨s, by omega⟩ ⟨d.toNat, by omega⟩ hs
  simp only [Int.toNat_of_nonneg (show 0 ≤ d by omega)] at h
  rw [prods_len, prods_len]
  exact h
structure Heard where
  s : Nat
  n : Nat
  d : Int
  M : List (List Int)
def Hd (K : PySem.W.Frag) (F : Hp) (v : V) (h : Heard) : Prop := ∃ t v1, v = .ref t ∧ F t = some (.tup [.int (h.s : Int), .int (h.n : Int), .int h.d, v1]) ∧ Dp K F v1 (tti h.M) ∧ h.s ≤ h.n ∧ h.n < 4 ∧ 1 ≤ h.d ∧ h.d ≤ 4 ∧ (prods h.n h.d).length ≤ 10 ∧ h.M.length = (prods h.s h.d).length ∧ Wid (prods h.s h.d).length h.M ∧ Deg h.s h.d h.M
theorem Hd.ex {K : PySem.W.Frag} {F F' : Hp} (e : Ex F F') {v : V} {h : Heard} (k : Hd K F v h) : Hd K F' v h := by
  obtain ⟨t, v1, rfl, h1, h2, h3⟩ := k
  exact ⟨t, v1, rfl, e _ _ h1, h2.ex e, h3⟩
theorem cMap_lens {s n : Nat} {d : Int} {M : List (List Int)} : (cMap s n d M).length = (prods n d).length ∧ ∀ r ∈ cMap s n d M, r.length = (prods n d).length := ⟨List.length_map _, fun r hr => by
  obtain ⟨p, _, rfl⟩ := List.mem_map.mp hr
  exact cRow_len⟩
theorem ok_law {k : Nat} (T : Txt K mg) : FnOk P w K mg base CX0 (k + 4) T.f_law T.fd_law ["_law_script"] (sp_law K) := by
  have G__law_deal : FnOk P w K mg base CX0 1 T.f__law_deal T.fd__law_deal ["_law_script", "_law_base"] (sp_deal K) := ok_deal T
  have G__law_draw : FnOk P w K mg base CX0 1 T.f__law_draw T.fd__law_draw ["_law_deal_here", "_law_many"] sp_draw := ok_draw T
  have G__law_map : FnOk P w K mg base CX0 3 T.f__law_map T.fd__law_map ["_law_deal_here", "_law_n", "_law_d"] (sp_lmap K) := ok_lmap T
  have G__law_count : FnOk P w K mg base CX0 1 T.f__law_count T.fd__law_count ["_law_n", "_law_d"] sp_how_many := ok__law_count T
  have G_same_map : FnOk P w K mg base CX0 2 T.f_same_map T.fd_same_map ["n", "d"] (sp_same_map K) := ok_same_map T
  have G_call_map : FnOk P w K mg base CX0 3 T.f_call_map T.fd_call_map ["shared", "n", "d", "one"] (sp_call_map K) := ok_call_map T
  have G__law_due : FnOk P w K mg base CX0 2 T.f__law_due T.fd__law_due ["_law_shared", "_law_n", "_law_d", "_law_one"] (sp_call_map K) := ok_due T
  have G__law_alike : FnOk P w K mg base CX0 3 T.f__law_alike T.fd__law_alike ["_law_found", "_law_due_here"] (sp_alike K) := ok_alike23 T
  refine T.F_law.ok sc_law (fun vs H Q E h => ?_) (fun cdv A outer s H vs Q E hr h => ?_)
  · obtain ⟨a, ns, rfl, _⟩ := h
    rfl
  · obtain ⟨a, ns, rfl, hS, hlen, q⟩ := h
    refine ⟨_, (pss_cons (ps_set (i := 1) sc_law.nd rfl (Or.inl rfl) (pe_call G__law_deal (hr.mono (by omega)) (by rfl) T.g__law_deal T.F__law_deal.kp T.b__law_deal .nil pass0 (pa_cons (pv 0) (pa_cons pe_int pa_nil))))
      (pss_cons (ps_set (i := 2) sc_law.nd rfl (Or.inl rfl) (pe_lst pa_nil))
      (Evl.pss_cut (ps_for PassesOwn.never rfl (pi_range1 (by rfl) T.z_range (pa_cons pe_int pa_nil)) (pg_name (i := 3) sc_law.nd rfl (Or.inl rfl))
        (pss_cons (ps_set (i := 4) sc_law.nd rfl (Or.inr rfl) (pe_call G__law_draw (hr.mono (by omega)) (by rfl) T.g__law_draw T.F__law_draw.kp T.b__law_draw .nil pass0 (pa_cons (pv 1) (pa_cons pe_int pa_nil))))
        (pss_cons (ps_set (i := 5) sc_law.nd rfl (Or.inl rfl) (pe_call G__law_draw (hr.mono (by omega)) (by rfl) T.g__law_draw T.F__law_draw.kp T.b__law_draw .nil pass0 (pa_cons (pv 1) (pa_cons (pe_op op_add (pv 4) pe_int) pa_nil))))
        (pss_cons (ps_setLc (i := 6) (own := [("_law_d", 7)]) (g := gName 7) rfl sc_law.nd rfl rfl (sw_true rfl rfl rfl (by decide +kernel)) (pi_tupK (K := K) (pe_tup (pa_cons pe_int (pa_cons pe_int (pa_cons pe_int (pa_cons pe_int pa_nil)))))) (blkOk_by (own := [("_law_d", 7)]) (N := nm_law) (sc := defScope st_law) (by decide +kernel)) (fun _ _ _ _ _ => (pg_name (i := 7) sc_law.nd rfl (Or.inl rfl))) (fun _ _ _ _ _ => (pts_one (pt_cmpR op_le (pe_call G__law_count (hr.mono (by omega)) (by rfl) T.g__law_count T.F__law_count.kp T.b__law_count .nil pass0 (pa_cons (pv 4) (pa_cons (pv 7) pa_nil))) pe_int (nomark _)))) (fun _ _ _ _ _ => (pv 7)))
        (pss_cons (ps_set (i := 7) sc_law.nd rfl (Or.inl rfl) (pe_ix (ix_listK (K := K)) (pv 6) (pe_call G__law_draw (hr.mono (by omega)) (by rfl) T.g__law_draw T.F__law_draw.kp T.b__law_draw .nil pass0 (pa_cons (pv 1) (pa_cons (pe_callB (call_lenK (K := K)) (by rfl) T.z_len bt_len (pa_cons (pv 6) pa_nil)) pa_nil))) (fun _ _ => rfl)))
        (pss_cons (ps_set (i := 8) sc_law.nd rfl (Or.inl rfl) (pe_call G__law_map (hr.mono (by omega)) (by rfl) T.g__law_map T.F__law_map.kp T.b__law_map .nil pass0 (pa_cons (pv 1) (pa_cons (pv 5) (pa_cons (pv 7) pa_nil)))))
        (pss_cons (ps_expr (pe_bmK (K := K) PySem.F.plainAttrs_list PySem.F.slot_list_append PySem.F.type_list_append mt_append (pv 2) (pa_cons (pe_tup (pa_cons (pv 5) (pa_cons (pv 4) (pa_cons (pv 7) (pa_cons (pv 8) pa_nil))))) pa_nil)))
        (pss_one (ps_if (pt_cmpR (op_neDK (K := K) hr.units) (pe_call G_call_map (hr.mono (by omega)) (by rfl) T.g_call_map T.F_call_map.kp T.b_call_map .nil pass0 (pa_cons (pv 5) (pa_cons (pv 4) (pa_cons (pv 7) (pa_cons (pe_call G_same_map (hr.mono (by omega)) (by rfl) T.g_same_map T.F_same_map.kp T.b_same_map .nil pass0 (pa_cons (pv 5) (pa_cons (pv 7) pa_nil))) pa_nil))))) (pe_call G_same_map (hr.mono (by omega)) (by rfl) T.g_same_map T.F_same_map.kp T.b_same_map .nil pass0 (pa_cons (pv 4) (pa_cons (pv 7) pa_nil))) (nomark _)) (pss_one (ps_ret pe_bl)) pss_nil)))))))))
      (Evl.pss_cut (ps_for PassesOwn.never rfl (pi_listK (K := K) (pe_op op_cat (pv 2) (pe_slice (sl_listK (K := K)) (pv 2) po_none (po_some pe_int)))) (pg_tupK (K := K) rfl (pgs_cons (pg_name (i := 5) sc_law.nd rfl (Or.inl rfl)) (pgs_cons (pg_name (i := 4) sc_law.nd rfl (Or.inr rfl)) (pgs_cons (pg_name (i := 7) sc_law.nd rfl (Or.inl rfl)) (pgs_cons (pg_name (i := 8) sc_law.nd rfl (Or.inl rfl)) pgs_nil)))))
        (pss_one (ps_if (pt_not (pt_val (pe_call G__law_alike (hr.mono (by omega)) (by rfl) T.g__law_alike T.F__law_alike.kp T.b__law_alike .nil pass0 (pa_cons (pe_call G_call_map (hr.mono (by omega)) (by rfl) T.g_call_map T.F_call_map.kp T.b_call_map .nil pass0 (pa_cons (pv 5) (pa_cons (pv 4) (pa_cons (pv 7) (pa_cons (pv 8) pa_nil))))) (pa_cons (pe_call G__law_due (hr.mono (by omega)) (by rfl) T.g__law_due T.F__law_due.kp T.b__law_due .nil pass0 (pa_cons (pv 5) (pa_cons (pv 4) (pa_cons (pv 7) (pa_cons (pv 8) pa_nil))))) pa_nil))))) (pss_one (ps_ret pe_bl)) pss_nil)))
      (pss_one (ps_ret pe_bl)))))), ?_⟩
    refine ⟨.ref a, rfl, a, ns, 0, rfl, hS, hlen, by decide, by decide, fun d l H1 x1 nd nl D1 => ?_⟩
    refine ⟨Nat.zero_le _, fun pf npf => ?_⟩
    have npfd := D1.nd npf
    have W1 : Wr d l (fun _ => none) (upd H1 pf (.lst [])) := ⟨fun _ _ e => (by cases e), rfl, rfl, D1.upd npfd.1 npfd.2⟩
    refine ⟨fun σ H' => ∃ F' xs, ∃ hs : List Heard, ∃ y3 y4 y5 y6 y7 y8, σ = [some (.ref a), some (.ref d), some (.ref pf), y3, y4, y5, y6, y7, y8] ∧ Ex F' H' ∧ H' pf = some (.lst xs) ∧ F2 (Hd K F') xs hs ∧ hs.length = 3, ?_, ?_⟩
    · refine ⟨3, rfl, by decide, by decide, for_range (lo := 0) (n := 3) (fun i σ H' => ∃ F' xs, ∃ hs : List Heard, ∃ y3 y4 y5 y6 y7 y8, σ = [some (.ref a), some (.ref d), some (.ref pf), y3, y4, y5, y6, y7, y8] ∧ Wr d l F' H' ∧ F' pf = none ∧ H' pf = some (.lst xs) ∧ F2 (Hd K F') xs hs ∧ hs.length = i) ⟨_, [], [], _, _, _, _, _, _, rfl, W1, rfl, upd_same, .nil, rfl⟩ (fun i σ H' hi h => ?_) (fun σ H' h => ?_)⟩
      · obtain ⟨F2', xs, hs, y3, y4, y5, y6, y7, y8, rfl, W2, nf2, hp2, hhs, ehs⟩ := h
        refine ⟨.ref d, rfl, d, l, 4, rfl, W2.deal, by decide, by decide, fun n H3 n0 n1 D3 k3 => ?_⟩
        have W3 := W2.draw D3 k3
        obtain ⟨n, rfl⟩ : ∃ n' : Nat, n = n' := ⟨n.toNat, (Int.toNat_of_nonneg n0).symm⟩
        have hn4 : n < 4 := by omega
        refine ⟨.ref d, rfl, .int (n : Int), rfl, _, _, rfl, rfl, d, l, _, rfl, W3.deal, by omega, by omega, fun sh H4 s0 s1 D4 k4 => ?_⟩
        have W4 := W3.draw D4 k4
        obtain ⟨sh, rfl⟩ : ∃ n' : Nat, sh = n' := ⟨sh.toNat, (Int.toNat_of_nonneg s0).symm⟩
        have hsn : sh ≤ n := by omega
        have hp4 := (k3.trans k4) pf _ npfd.1 npfd.2 hp2
        -- some
        refine ⟨by show 4 ≤ sizeLine; decide, fun t4 nt4 => ⟨t4, rfl, ⟨_, SqT.of upd_same⟩, fun ps nps => ?_⟩⟩
        have x4 := Evl.Ex.new (o := .tup [.int 1, .int 2, .int 3, .int 4]) nt4
        have hps : t4 ≠ ps := ne_of_none upd_same nps
        refine lc_it (walk_tup (K := K) (a := t4) (xs := [.int 1, .int 2, .int 3, .int 4])) (fun i H' => Ex H4 H' ∧ H' t4 = some (.tup [.int 1, .int 2, .int 3, .int 4]) ∧ ∃ ds : List Int, H' ps = some (.lst (ds.map V.int)) ∧ ds.length ≤ i ∧ (0 < i → ds ≠ []) ∧ ∀ x ∈ ds, 1 ≤ x ∧ x ≤ 4 ∧ hm x n ≤ 10) ⟨x4.trans (Evl.Ex.new nps), by rw [upd_ne hps, upd_same], [], upd_same, by simp, by omega, fun x hx => (by cases hx)⟩ (fun i H' _ h => SqT.of h.2.1) (fun i x H' H'' hi h y => ?_) (fun H' h => ?_)
        · obtain ⟨xx, h4, ds, hD, hl, hne, hds⟩ := h
          obtain ⟨rfl, hx⟩ := y
          have nH : H4 ps = none := Evl.fresh_back x4 nps
          obtain ⟨z, rfl, z1, z4, zi⟩ : ∃ z : Int, x = .int z ∧ 1 ≤ z ∧ z ≤ 4 ∧ z = (i : Int) + 1 := by
            have hi' : i = 0 ∨ i = 1 ∨ i = 2 ∨ i = 3 := by
              have : i < 4 := hi
              omega
            rcases hi' with rfl | rfl | rfl | rfl <;> (cases hx; exact ⟨_, rfl, by decide, by decide, by decide⟩)
          refine ⟨rfl, .int n, rfl, .int z, rfl, n, z, rfl, by omega, by omega, by omega, _, _, rfl, rfl, _, rfl, ite2 (fun e1 => ?_) (fun e1 => ?_)⟩
          · refine ⟨.int z, rfl, ds.map V.int, hD, small1000 (by rw [List.length_map]; have : i < 4 := hi; omega), Evl.Ex.mut xx nH, by rw [upd_ne hps]; exact h4, ds ++ [z], by rw [upd_same, List.map_append]; rfl, by rw [List.length_append]; show ds.length + 1 ≤ i + 1; omega, fun _ => by simp, fun y hy => ?_⟩
            rcases List.mem_append.mp hy with h | h
            · exact hds y h
            · rw [List.mem_singleton.mp h]
              exact ⟨z1, z4, of_decide_eq_true e1⟩
          · refine ⟨xx, h4, ds, hD, by omega, fun _ => ?_, hds⟩
            by_cases h0 : 0 < i
            · exact hne h0
            · exfalso
              apply e1
              have hz : z = 1 := by omega
              subst hz
              exact decide_eq_true (cnt1 ⟨n, hn4⟩)
        obtain ⟨x5, _, ds, hD5, hl, hne, hds⟩ := h
        have hds0 : ds ≠ [] := hne (by decide)
        have hl4 : ds.length ≤ 4 := hl
        have hpos : 0 < ds.length := List.length_pos_iff.mpr hds0
        have W5 := W4.gr (Gr.of_ex W4.sub x5)
        have hp5 := x5 _ _ hp4
        have npsd := (W4.gr (Gr.of_ex W4.sub x4)).ne nps
        refine ⟨.ref ps, rfl, .ref d, rfl, .ref ps, rfl, ps, _, rfl, .inl (SqL.of hD5), d, l, _, rfl, W5.deal, by rw [List.length_map]; omega, by rw [List.length_map]; omega, fun r H6 r0 r1 D6 k6 => ?_⟩
        obtain ⟨v, ev, hv⟩ := at_in (xs := ds.map V.int) r0 r1
        obtain ⟨dd, hdd, rfl⟩ := List.mem_map.mp hv
        obtain ⟨d1, d4, cn⟩ := hds dd hdd
        have W6 := W5.draw D6 k6
        have hp6 := k6 pf _ npfd.1 npfd.2 hp5
        refine ⟨ps, _, r, _, rfl, rfl, SqL.of (k6 ps _ npsd.1 npsd.2 hD5), ev, ?_⟩
        have hPn := cnt_raw hn4 d1 d4
        have hPs := cnt_raw (n := sh) (by omega) d1 d4
        have hP10 : (prods n dd).length ≤ 10 := by omega
        have hS10 : (prods sh dd).length ≤ 10 := Nat.le_trans (cnt_le hn4 hsn d1 d4) hP10
        -- one
        refine ⟨.ref d, rfl, .int (sh : Int), rfl, .int dd, rfl, d, l, sh, dd, F2', rfl, W6, by omega, by omega, by omega, by omega, fun vm F7 H7 M W7 nf7 k7 dM lM rM rok => ?_⟩
        have hp7 := k7 pf _ npfd.1 npfd.2 hp6
        have nfp7 : F7 pf = none := nf7.nf pf nf2 (by rw [hp6]; exact fun z => by cases z)
        have wM : Wid (prods sh dd).length M := fun r hr => (rM r hr).1
        have dgM : Deg sh dd M := fun i j pi pj row x ei ej er ex nx => rok i pi row ei er j x pj ex ej nx
        refine ⟨.ref pf, rfl, .inl ⟨rfl, _, SqL.of hp7⟩, .int (sh : Int), rfl, .int (n : Int), rfl, .int dd, rfl, vm, rfl, by show 4 ≤ sizeLine; decide, fun t nt => ?_⟩
        have W8 : Wr d l (upd F7 t (.tup [.int (sh : Int), .int (n : Int), .int dd, vm])) (upd H7 t (.tup [.int (sh : Int), .int (n : Int), .int dd, vm])) := W7.new nt
        have fx := Evl.Ex.new (o := .tup [.int (sh : Int), .int (n : Int), .int dd, vm]) (sub_none W7.sub nt)
        have netp : pf ≠ t := ne_of_none hp7 nt
        have hp8 : (upd H7 t (.tup [.int (sh : Int), .int (n : Int), .int dd, vm])) pf = some (.lst xs) := by rw [upd_ne netp]; exact hp7
        have nfp8 : (upd F7 t (.tup [.int (sh : Int), .int (n : Int), .int dd, vm])) pf = none := by rw [upd_ne netp]; exact nfp7
        have ht8 : (upd F7 t (.tup [.int (sh : Int), .int (n : Int), .int dd, vm])) t = some (.tup [.int (sh : Int), .int (n : Int), .int dd, vm]) := upd_same
        generalize upd F7 t (.tup [.int (sh : Int), .int (n : Int), .int dd, vm]) = F8 at W8 fx nfp8 ht8
        generalize upd H7 t (.tup [.int (sh : Int), .int (n : Int), .int dd, vm]) = H8 at W8 hp8 ⊢
        refine ⟨pf, xs, .ref t, rfl, rfl, hp8, small1000 (by rw [hhs.length]; omega), ?_⟩
        have W9 : Wr d l F8 (upd H8 pf (.lst (xs ++ [.ref t]))) := W8.mut nfp8 npfd.1 npfd.2
        have hp9 : (upd H8 pf (.lst (xs ++ [.ref t]))) pf = some (.lst (xs ++ [.ref t])) := upd_same
        have hhs9 : F2 (Hd K F8) (xs ++ [.ref t]) (hs ++ [⟨sh, n, dd, M⟩]) := (F2.mono (fun _ _ h => Hd.ex (nf7.ex.trans fx) h) hhs).snoc ⟨t, vm, rfl, ht8, dM.ex fx, hsn, hn4, d1, d4, hP10, lM, wM, dgM⟩
        generalize upd H8 pf (.lst (xs ++ [.ref t])) = H9 at W9 hp9 ⊢
        -- the same map called
        refine ⟨.int (sh : Int), rfl, .int (n : Int), rfl, .int dd, rfl, .int (sh : Int), rfl, .int dd, rfl, sh, (prods sh dd).length, dd, F8, rfl, W9.sub, by omega, by omega, by omega, hPs, by omega, fun u1 F10 H10 g10 du1 => ?_⟩
        have hdg := deg_sm sh dd
        refine ⟨sh, n, dd, u1, sm (prods sh dd).length, F10, rfl, g10.sub, hsn, by omega, by omega, by omega, by omega, by omega, du1, sm_len, (fun r hr => by obtain ⟨_, _, rfl⟩ := List.mem_map.mp hr; exact sg_len), hdg, fun u2 F11 H11 g11 du2 => ?_⟩
        refine ⟨.int (n : Int), rfl, .int dd, rfl, n, (prods n dd).length, dd, F11, rfl, g11.sub, by omega, by omega, by omega, hPn, by omega, fun u3 F12 H12 g12 du3 => ?_⟩
        refine ⟨_, _, (du2.ex g12.fz).ex g12.sub, du3.ex g12.sub, tti_shaped _, tti_shaped _, _, rfl, ?_⟩
        rw [cMap_same (by omega) hsn, eqv_refl _ (tti_shaped _)]
        have ga := (g10.trans g11).trans g12
        obtain ⟨nm, hm'⟩ := ga.keepm (fun h => h) nfp8 hp9
        exact iteF ⟨F12, _, _, _, _, _, _, _, _, rfl, W9.gr ga, nm, hm', F2.mono (fun _ _ h => Hd.ex ga.fz h) hhs9, by rw [List.length_append, ehs]; rfl⟩
      · obtain ⟨F2', xs, hs, y3, y4, y5, y6, y7, y8, rfl, W2, nf2, hp2, hhs, ehs⟩ := h
        exact ⟨F2', xs, hs, _, _, _, _, _, _, rfl, W2.sub, hp2, hhs, ehs⟩
    · rintro σ H2 ⟨F2', xs, hs, y3, y4, y5, y6, y7, y8, rfl, W2, hp2, hhs, ehs⟩
      have hxl : xs.length = 3 := by rw [hhs.length]; exact ehs
      refine ⟨fun _ _ => True, ?_, fun _ H' _ => q H'⟩
      refine ⟨.ref pf, rfl, .ref pf, rfl, 1, rfl, pf, _, rfl, SqL.of hp2, fun m2 nm2 => ?_⟩
      have hl2 := cut_len xs none (some 1)
      have hm2 : ∀ y ∈ cutV xs none (some 1), y ∈ xs := fun y hy => cut_mem hy
      generalize cutV xs none (some 1) = ys at nm2 hl2 hm2 ⊢
      have e0 : pf ≠ m2 := ne_of_none hp2 nm2
      refine ⟨pf, m2, _, _, rfl, rfl, by rw [upd_ne e0]; exact hp2, upd_same, Nat.le_of_lt (small1000 (by omega)), fun m3 nm3 => ?_⟩
      have x3 : Ex F2' (upd (upd H2 m2 (.lst ys)) m3 (.lst (xs ++ ys))) := (W2.trans (Evl.Ex.new nm2)).trans (Evl.Ex.new nm3)
      have fm3 : F2' m3 = none := sub_none (W2.trans (Evl.Ex.new nm2)) nm3
      refine ⟨m3, rfl, ⟨_, SqL.of upd_same⟩, for_list (K := K) (a := m3) (xs := xs ++ ys) (fun i σ H' => (∃ y3 y4 y5 y6 y7 y8, σ = [some (.ref a), some (.ref d), some (.ref pf), y3, y4, y5, y6, y7, y8]) ∧ ∃ F', Ex F2' F' ∧ Ex F' H' ∧ F' m3 = none ∧ H' m3 = some (.lst (xs ++ ys))) ⟨⟨_, _, _, _, _, _, rfl⟩, F2', Evl.Ex.refl F2', x3, fm3, upd_same⟩ (fun i σ H' _ h => ?_) (fun i x σ H3 hxi h => ?_) (fun _ _ _ => trivial)⟩
      · obtain ⟨_, F', _, _, _, h⟩ := h
        exact SqL.of h
      · obtain ⟨⟨y3, y4, y5, y6, y7, y8, rfl⟩, F3, f3, hF3, fm3, hm3⟩ := h
        obtain ⟨hh, t, v1, rfl, ht, dM, hsn, hn4, d1, d4, hP10, lM, wM, dgM⟩ : ∃ hh, Hd K F3 x hh := by
          have hmem : x ∈ xs := by
            rcases List.mem_append.mp (List.mem_of_getElem? hxi) with h | h
            · exact h
            · exact hm2 x h
          obtain ⟨j, hj⟩ := List.mem_iff_getElem?.mp hmem
          obtain ⟨hh, _, hd⟩ := hhs.get hj
          exact ⟨hh, hd.ex f3⟩
        obtain ⟨sh, n, dd, M⟩ := hh
        dsimp only at ht dM hsn hn4 d1 d4 hP10 lM wM dgM
        have hS10 : (prods sh dd).length ≤ 10 := Nat.le_trans (cnt_le hn4 hsn d1 d4) hP10
        refine ⟨t, _, rfl, SqT.of (hF3 _ _ ht), rfl, _, _, rfl, _, _, rfl, _, _, rfl, _, [], rfl, rfl, ?_⟩
        refine ⟨.int (sh : Int), rfl, .int (n : Int), rfl, .int dd, rfl, v1, rfl, sh, n, dd, v1, M, F3, rfl, hF3, hsn, by omega, by omega, by omega, by omega, by omega, dM, lM, wM, dgM, fun u1 F4 H4 g4 du1 => ?_⟩
        refine ⟨.int (sh : Int), rfl, .int (n : Int), rfl, .int dd, rfl, v1, rfl, sh, n, dd, v1, M, F4, rfl, g4.sub, hsn, by omega, by omega, by omega, by omega, by omega, dM.ex g4.fz, lM, wM, dgM, fun u2 F5 H5 g5 du2 => ?_⟩
        have hc := cMap_lens (s := sh) (n := n) (d := dd) (M := M)
        refine .inr ⟨u1, u2, _, F5, rfl, g5.sub, du1.ex g5.fz, du2, al_tti (by rw [hc.1]; omega) (fun r hr => by rw [hc.2 r hr]; omega), fun H6 x6 => ⟨true, rfl, iteF ?_⟩⟩
        have ga := (g4.trans g5).trans (Gr.of_ex g5.sub x6)
        obtain ⟨nm, hm'⟩ := ga.keepm (fun h => h) fm3 hm3
        exact ⟨⟨_, _, _, _, _, _, rfl⟩, F5, f3.trans ga.fz, ga.sub, nm, hm'⟩
abbrev level : Nat := 4
theorem law_starts {K : PySem.W.Frag} {H : Hp} {a : Addr} {ns : List Int} (hl : ns.length ≤ 63) (hS : SqL K H a (ns.map V.int)) : sp_law K [.ref a] H (fun v _ => v = .bl true) fun _ _ _ => False := ⟨a, ns, rfl, hS, hl, fun _ => rfl⟩
theorem law_ok {fa : Addr} (hmg : mg "law" = some (.ref fa)) (T : Txt K mg) :
    ∃ fd : FuncData, (∀ (s : Shared) (v : Value), BindsTo s fd ⟨[v], []⟩ [("_law_script", v)]) ∧ ∀ base : Heap, K.In base → base.Ns mainGlobals mg → FnOk P w K mg base CX0 level fa fd ["_law_script"] (sp_law K) := by
  have e := hmg.symm.trans T.g_law
  cases e
  refine ⟨T.fd_law, fun s v => ?_, fun base _ _ => ok_law T⟩
  obtain ⟨oc, od, kV, doc, pm, an, cdv, ct, osl, e, lk, hcd⟩ := T.F_law.ex
  rw [e]
  exact .of_eq rfl

end
def txt_mk {K : PySem.W.Frag} {h : Heap} {mg : Str → Option Value} (X : K.In h) (G : h.Ns mainGlobals mg)
    {f_products : Addr} {od_products an_products : Option Addr} {sl_products : Array (Option Value)} {oc_products kV_products dc_products pm_products cd_products ct_products : Value}
    (a_products : PySem.W.nsIn K mainGlobals "products" = some (some (.ref f_products))) (l_products : K.lookup f_products = some ⟨oc_products, od_products, .func (PySem.W.fnOf "products" "products" (defArgs st_products) (defBody st_products) (defScope st_products) .none kV_products dc_products pm_products an_products cd_products ct_products), sl_products⟩) (c_products : PySem.W.codeIn K cd_products "products" = true) (k_products : PySem.W.keepIn K (.ref f_products) = true)
    {f_how_many : Addr} {od_how_many an_how_many : Option Addr} {sl_how_many : Array (Option Value)} {oc_how_many kV_how_many dc_how_many pm_how_many cd_how_many ct_how_many : Value}
    (a_how_many : PySem.W.nsIn K mainGlobals "how_many" = some (some (.ref f_how_many))) (l_how_many : K.lookup f_how_many = some ⟨oc_how_many, od_how_many, .func (PySem.W.fnOf "how_many" "how_many" (defArgs st_how_many) (defBody st_how_many) (defScope st_how_many) .none kV_how_many dc_how_many pm_how_many an_how_many cd_how_many ct_how_many), sl_how_many⟩) (c_how_many : PySem.W.codeIn K cd_how_many "how_many" = true) (k_how_many : PySem.W.keepIn K (.ref f_how_many) = true)
    {f_single : Addr} {od_single an_single : Option Addr} {sl_single : Array (Option Value)} {oc_single kV_single dc_single pm_single cd_single ct_single : Value}
    (a_single : PySem.W.nsIn K mainGlobals "single" = some (some (.ref f_single))) (l_single : K.lookup f_single = some ⟨oc_single, od_single, .func (PySem.W.fnOf "single" "single" (defArgs st_single) (defBody st_single) (defScope st_single) .none kV_single dc_single pm_single an_single cd_single ct_single), sl_single⟩) (c_single : PySem.W.codeIn K cd_single "single" = true) (k_single : PySem.W.keepIn K (.ref f_single) = true)
    {f_same_map : Addr} {od_same_map an_same_map : Option Addr} {sl_same_map : Array (Option Value)} {oc_same_map kV_same_map dc_same_map pm_same_map cd_same_map ct_same_map : Value}
    (a_same_map : PySem.W.nsIn K mainGlobals "same_map" = some (some (.ref f_same_map))) (l_same_map : K.lookup f_same_map = some ⟨oc_same_map, od_same_map, .func (PySem.W.fnOf "same_map" "same_map" (defArgs st_same_map) (defBody st_same_map) (defScope st_same_map) .none kV_same_map dc_same_map pm_same_map an_same_map cd_same_map ct_same_map), sl_same_map⟩) (c_same_map : PySem.W.codeIn K cd_same_map "same_map" = true) (k_same_map : PySem.W.keepIn K (.ref f_same_map) = true)
    {f_places : Addr} {od_places an_places : Option Addr} {sl_places : Array (Option Value)} {oc_places kV_places dc_places pm_places cd_places ct_places : Value}
    (a_places : PySem.W.nsIn K mainGlobals "places" = some (some (.ref f_places))) (l_places : K.lookup f_places = some ⟨oc_places, od_places, .func (PySem.W.fnOf "places" "places" (defArgs st_places) (defBody st_places) (defScope st_places) .none kV_places dc_places pm_places an_places cd_places ct_places), sl_places⟩) (c_places : PySem.W.codeIn K cd_places "places" = true) (k_places : PySem.W.keepIn K (.ref f_places) = true)
    {f_call_map : Addr} {od_call_map an_call_map : Option Addr} {sl_call_map : Array (Option Value)} {oc_call_map kV_call_map dc_call_map pm_call_map cd_call_map ct_call_map : Value}
    (a_call_map : PySem.W.nsIn K mainGlobals "call_map" = some (some (.ref f_call_map))) (l_call_map : K.lookup f_call_map = some ⟨oc_call_map, od_call_map, .func (PySem.W.fnOf "call_map" "call_map" (defArgs st_call_map) (defBody st_call_map) (defScope st_call_map) .none kV_call_map dc_call_map pm_call_map an_call_map cd_call_map ct_call_map), sl_call_map⟩) (c_call_map : PySem.W.codeIn K cd_call_map "call_map" = true) (k_call_map : PySem.W.keepIn K (.ref f_call_map) = true)
    {f__law_deal : Addr} {od__law_deal an__law_deal : Option Addr} {sl__law_deal : Array (Option Value)} {oc__law_deal kV__law_deal dc__law_deal pm__law_deal cd__law_deal ct__law_deal : Value}
    (a__law_deal : PySem.W.nsIn K mainGlobals "_law_deal" = some (some (.ref f__law_deal))) (l__law_deal : K.lookup f__law_deal = some ⟨oc__law_deal, od__law_deal, .func (PySem.W.fnOf "_law_deal" "_law_deal" (defArgs st__law_deal) (defBody st__law_deal) (defScope st__law_deal) .none kV__law_deal dc__law_deal pm__law_deal an__law_deal cd__law_deal ct__law_deal), sl__law_deal⟩) (c__law_deal : PySem.W.codeIn K cd__law_deal "_law_deal" = true) (k__law_deal : PySem.W.keepIn K (.ref f__law_deal) = true)
    {f__law_draw : Addr} {od__law_draw an__law_draw : Option Addr} {sl__law_draw : Array (Option Value)} {oc__law_draw kV__law_draw dc__law_draw pm__law_draw cd__law_draw ct__law_draw : Value}
    (a__law_draw : PySem.W.nsIn K mainGlobals "_law_draw" = some (some (.ref f__law_draw))) (l__law_draw : K.lookup f__law_draw = some ⟨oc__law_draw, od__law_draw, .func (PySem.W.fnOf "_law_draw" "_law_draw" (defArgs st__law_draw) (defBody st__law_draw) (defScope st__law_draw) .none kV__law_draw dc__law_draw pm__law_draw an__law_draw cd__law_draw ct__law_draw), sl__law_draw⟩) (c__law_draw : PySem.W.codeIn K cd__law_draw "_law_draw" = true) (k__law_draw : PySem.W.keepIn K (.ref f__law_draw) = true)
    {f__law_count : Addr} {od__law_count an__law_count : Option Addr} {sl__law_count : Array (Option Value)} {oc__law_count kV__law_count dc__law_count pm__law_count cd__law_count ct__law_count : Value}
    (a__law_count : PySem.W.nsIn K mainGlobals "_law_count" = some (some (.ref f__law_count))) (l__law_count : K.lookup f__law_count = some ⟨oc__law_count, od__law_count, .func (PySem.W.fnOf "_law_count" "_law_count" (defArgs st__law_count) (defBody st__law_count) (defScope st__law_count) .none kV__law_count dc__law_count pm__law_count an__law_count cd__law_count ct__law_count), sl__law_count⟩) (c__law_count : PySem.W.codeIn K cd__law_count "_law_count" = true) (k__law_count : PySem.W.keepIn K (.ref f__law_count) = true)
    {f__law_products : Addr} {od__law_products an__law_products : Option Addr} {sl__law_products : Array (Option Value)} {oc__law_products kV__law_products dc__law_products pm__law_products cd__law_products ct__law_products : Value}
    (a__law_products : PySem.W.nsIn K mainGlobals "_law_products" = some (some (.ref f__law_products))) (l__law_products : K.lookup f__law_products = some ⟨oc__law_products, od__law_products, .func (PySem.W.fnOf "_law_products" "_law_products" (defArgs st__law_products) (defBody st__law_products) (defScope st__law_products) .none kV__law_products dc__law_products pm__law_products an__law_products cd__law_products ct__law_products), sl__law_products⟩) (c__law_products : PySem.W.codeIn K cd__law_products "_law_products" = true) (k__law_products : PySem.W.keepIn K (.ref f__law_products) = true)
    {f__law_alike : Addr} {od__law_alike an__law_alike : Option Addr} {sl__law_alike : Array (Option Value)} {oc__law_alike kV__law_alike dc__law_alike pm__law_alike cd__law_alike ct__law_alike : Value}
    (a__law_alike : PySem.W.nsIn K mainGlobals "_law_alike" = some (some (.ref f__law_alike))) (l__law_alike : K.lookup f__law_alike = some ⟨oc__law_alike, od__law_alike, .func (PySem.W.fnOf "_law_alike" "_law_alike" (defArgs st__law_alike) (defBody st__law_alike) (defScope st__law_alike) .none kV__law_alike dc__law_alike pm__law_alike an__law_alike cd__law_alike ct__law_alike), sl__law_alike⟩) (c__law_alike : PySem.W.codeIn K cd__law_alike "_law_alike" = true) (k__law_alike : PySem.W.keepIn K (.ref f__law_alike) = true)
    {f__law_number : Addr} {od__law_number an__law_number : Option Addr} {sl__law_number : Array (Option Value)} {oc__law_number kV__law_number dc__law_number pm__law_number cd__law_number ct__law_number : Value}
    (a__law_number : PySem.W.nsIn K mainGlobals "_law_number" = some (some (.ref f__law_number))) (l__law_number : K.lookup f__law_number = some ⟨oc__law_number, od__law_number, .func (PySem.W.fnOf "_law_number" "_law_number" (defArgs st__law_number) (defBody st__law_number) (defScope st__law_number) .none kV__law_number dc__law_number pm__law_number an__law_number cd__law_number ct__law_number), sl__law_number⟩) (c__law_number : PySem.W.codeIn K cd__law_number "_law_number" = true) (k__law_number : PySem.W.keepIn K (.ref f__law_number) = true)
    {f__law_map : Addr} {od__law_map an__law_map : Option Addr} {sl__law_map : Array (Option Value)} {oc__law_map kV__law_map dc__law_map pm__law_map cd__law_map ct__law_map : Value}
    (a__law_map : PySem.W.nsIn K mainGlobals "_law_map" = some (some (.ref f__law_map))) (l__law_map : K.lookup f__law_map = some ⟨oc__law_map, od__law_map, .func (PySem.W.fnOf "_law_map" "_law_map" (defArgs st__law_map) (defBody st__law_map) (defScope st__law_map) .none kV__law_map dc__law_map pm__law_map an__law_map cd__law_map ct__law_map), sl__law_map⟩) (c__law_map : PySem.W.codeIn K cd__law_map "_law_map" = true) (k__law_map : PySem.W.keepIn K (.ref f__law_map) = true)
    {f__law_due : Addr} {od__law_due an__law_due : Option Addr} {sl__law_due : Array (Option Value)} {oc__law_due kV__law_due dc__law_due pm__law_due cd__law_due ct__law_due : Value}
    (a__law_due : PySem.W.nsIn K mainGlobals "_law_due" = some (some (.ref f__law_due))) (l__law_due : K.lookup f__law_due = some ⟨oc__law_due, od__law_due, .func (PySem.W.fnOf "_law_due" "_law_due" (defArgs st__law_due) (defBody st__law_due) (defScope st__law_due) .none kV__law_due dc__law_due pm__law_due an__law_due cd__law_due ct__law_due), sl__law_due⟩) (c__law_due : PySem.W.codeIn K cd__law_due "_law_due" = true) (k__law_due : PySem.W.keepIn K (.ref f__law_due) = true)
    {f_law : Addr} {od_law an_law : Option Addr} {sl_law : Array (Option Value)} {oc_law kV_law dc_law pm_law cd_law ct_law : Value}
    (a_law : PySem.W.nsIn K mainGlobals "law" = some (some (.ref f_law))) (l_law : K.lookup f_law = some ⟨oc_law, od_law, .func (PySem.W.fnOf "law" "law" (defArgs st_law) (defBody st_law) (defScope st_law) .none kV_law dc_law pm_law an_law cd_law ct_law), sl_law⟩) (c_law : PySem.W.codeIn K cd_law "law" = true) (k_law : PySem.W.keepIn K (.ref f_law) = true)
    (z_all : PySem.W.nsIn K mainGlobals "all" = some none)
    (z_bool : PySem.W.nsIn K mainGlobals "bool" = some none)
    (z_int : PySem.W.nsIn K mainGlobals "int" = some none)
    (z_isinstance : PySem.W.nsIn K mainGlobals "isinstance" = some none)
    (z_len : PySem.W.nsIn K mainGlobals "len" = some none)
    (z_list : PySem.W.nsIn K mainGlobals "list" = some none)
    (z_max : PySem.W.nsIn K mainGlobals "max" = some none)
    (z_range : PySem.W.nsIn K mainGlobals "range" = some none)
    (z_reversed : PySem.W.nsIn K mainGlobals "reversed" = some none)
    (z_sorted : PySem.W.nsIn K mainGlobals "sorted" = some none)
    (z_sum : PySem.W.nsIn K mainGlobals "sum" = some none)
    (z_tuple : PySem.W.nsIn K mainGlobals "tuple" = some none)
    (z_zip : PySem.W.nsIn K mainGlobals "zip" = some none) : Txt K mg :=
  {
    f_products := f_products, fd_products := _, F_products := fun_mk (st := st_products) l_products c_products k_products, b_products := (fun_mk (st := st_products) l_products c_products k_products).binds (ps := ["n", "d"]) fun _ _ _ _ _ _ us hl => match us, hl with | [_, _], _ => rfl, g_products := PySem.W.mg_of X G a_products,
    f_how_many := f_how_many, fd_how_many := _, F_how_many := fun_mk (st := st_how_many) l_how_many c_how_many k_how_many, b_how_many := (fun_mk (st := st_how_many) l_how_many c_how_many k_how_many).binds (ps := ["n", "d"]) fun _ _ _ _ _ _ us hl => match us, hl with | [_, _], _ => rfl, g_how_many := PySem.W.mg_of X G a_how_many,
    f_single := f_single, fd_single := _, F_single := fun_mk (st := st_single) l_single c_single k_single, b_single := (fun_mk (st := st_single) l_single c_single k_single).binds (ps := ["many", "at"]) fun _ _ _ _ _ _ us hl => match us, hl with | [_, _], _ => rfl, g_single := PySem.W.mg_of X G a_single,
    f_same_map := f_same_map, fd_same_map := _, F_same_map := fun_mk (st := st_same_map) l_same_map c_same_map k_same_map, b_same_map := (fun_mk (st := st_same_map) l_same_map c_same_map k_same_map).binds (ps := ["n", "d"]) fun _ _ _ _ _ _ us hl => match us, hl with | [_, _], _ => rfl, g_same_map := PySem.W.mg_of X G a_same_map,
    f_places := f_places, fd_places := _, F_places := fun_mk (st := st_places) l_places c_places k_places, b_places := (fun_mk (st := st_places) l_places c_places k_places).binds (ps := ["n", "d"]) fun _ _ _ _ _ _ us hl => match us, hl with | [_, _], _ => rfl, g_places := PySem.W.mg_of X G a_places,
    f_call_map := f_call_map, fd_call_map := _, F_call_map := fun_mk (st := st_call_map) l_call_map c_call_map k_call_map, b_call_map := (fun_mk (st := st_call_map) l_call_map c_call_map k_call_map).binds (ps := ["shared", "n", "d", "one"]) fun _ _ _ _ _ _ us hl => match us, hl with | [_, _, _, _], _ => rfl, g_call_map := PySem.W.mg_of X G a_call_map,
    f__law_deal := f__law_deal, fd__law_deal := _, F__law_deal := fun_mk (st := st__law_deal) l__law_deal c__law_deal k__law_deal, b__law_deal := (fun_mk (st := st__law_deal) l__law_deal c__law_deal k__law_deal).binds (ps := ["_law_script", "_law_base"]) fun _ _ _ _ _ _ us hl => match us, hl with | [_, _], _ => rfl, g__law_deal := PySem.W.mg_of X G a__law_deal,
    f__law_draw := f__law_draw, fd__law_draw := _, F__law_draw := fun_mk (st := st__law_draw) l__law_draw c__law_draw k__law_draw, b__law_draw := (fun_mk (st := st__law_draw) l__law_draw c__law_draw k__law_draw).binds (ps := ["_law_deal_here", "_law_many"]) fun _ _ _ _ _ _ us hl => match us, hl with | [_, _], _ => rfl, g__law_draw := PySem.W.mg_of X G a__law_draw,
    f__law_count := f__law_count, fd__law_count := _, F__law_count := fun_mk (st := st__law_count) l__law_count c__law_count k__law_count, b__law_count := (fun_mk (st := st__law_count) l__law_count c__law_count k__law_count).binds (ps := ["_law_n", "_law_d"]) fun _ _ _ _ _ _ us hl => match us, hl with | [_, _], _ => rfl, g__law_count := PySem.W.mg_of X G a__law_count,
    f__law_products := f__law_products, fd__law_products := _, F__law_products := fun_mk (st := st__law_products) l__law_products c__law_products k__law_products, b__law_products := (fun_mk (st := st__law_products) l__law_products c__law_products k__law_products).binds (ps := ["_law_n", "_law_d"]) fun _ _ _ _ _ _ us hl => match us, hl with | [_, _], _ => rfl, g__law_products := PySem.W.mg_of X G a__law_products,
    f__law_alike := f__law_alike, fd__law_alike := _, F__law_alike := fun_mk (st := st__law_alike) l__law_alike c__law_alike k__law_alike, b__law_alike := (fun_mk (st := st__law_alike) l__law_alike c__law_alike k__law_alike).binds (ps := ["_law_found", "_law_due_here"]) fun _ _ _ _ _ _ us hl => match us, hl with | [_, _], _ => rfl, g__law_alike := PySem.W.mg_of X G a__law_alike,
    f__law_number := f__law_number, fd__law_number := _, F__law_number := fun_mk (st := st__law_number) l__law_number c__law_number k__law_number, b__law_number := (fun_mk (st := st__law_number) l__law_number c__law_number k__law_number).binds (ps := ["_law_deal_here"]) fun _ _ _ _ _ _ us hl => match us, hl with | [_], _ => rfl, g__law_number := PySem.W.mg_of X G a__law_number,
    f__law_map := f__law_map, fd__law_map := _, F__law_map := fun_mk (st := st__law_map) l__law_map c__law_map k__law_map, b__law_map := (fun_mk (st := st__law_map) l__law_map c__law_map k__law_map).binds (ps := ["_law_deal_here", "_law_n", "_law_d"]) fun _ _ _ _ _ _ us hl => match us, hl with | [_, _, _], _ => rfl, g__law_map := PySem.W.mg_of X G a__law_map,
    f__law_due := f__law_due, fd__law_due := _, F__law_due := fun_mk (st := st__law_due) l__law_due c__law_due k__law_due, b__law_due := (fun_mk (st := st__law_due) l__law_due c__law_due k__law_due).binds (ps := ["_law_shared", "_law_n", "_law_d", "_law_one"]) fun _ _ _ _ _ _ us hl => match us, hl with | [_, _, _, _], _ => rfl, g__law_due := PySem.W.mg_of X G a__law_due,
    f_law := f_law, fd_law := _, F_law := fun_mk (st := st_law) l_law c_law k_law, b_law := (fun_mk (st := st_law) l_law c_law k_law).binds (ps := ["_law_script"]) fun _ _ _ _ _ _ us hl => match us, hl with | [_], _ => rfl, g_law := PySem.W.mg_of X G a_law,
    z_all := PySem.W.mg_none_of X G z_all,
    z_bool := PySem.W.mg_none_of X G z_bool,
    z_int := PySem.W.mg_none_of X G z_int,
    z_isinstance := PySem.W.mg_none_of X G z_isinstance,
    z_len := PySem.W.mg_none_of X G z_len,
    z_list := PySem.W.mg_none_of X G z_list,
    z_max := PySem.W.mg_none_of X G z_max,
    z_range := PySem.W.mg_none_of X G z_range,
    z_reversed := PySem.W.mg_none_of X G z_reversed,
    z_sorted := PySem.W.mg_none_of X G z_sorted,
    z_sum := PySem.W.mg_none_of X G z_sum,
    z_tuple := PySem.W.mg_none_of X G z_tuple,
    z_zip := PySem.W.mg_none_of X G z_zip }
end LW
open PySem PySem.W PyProof.Rows
set_option maxHeartbeats 0 in
theorem PySem.Challenge.cw_curvekept_k23_maps_of_calls_holds : PySem.Challenge.rw_curvekept_k23_maps_of_calls.Holds := by
  w_on; o_law; k_head; (case hw => w_witness2)
  k_fill
  refine L2.walk_of (l := PySem.Challenge.rw_curvekept_k23_maps_of_calls) (n := 63) (k := LW.level) (x := "_law_script") (CX := fun _ => L2.CX0) (sp := fun w => LW.sp_law _) rfl (by decide) rfl ⟨rfl, by decide, by decide⟩ (fun w h Y => PySem.W.kIn_of Y) ?F (fun _ _ a ns hl _ hS => LW.law_starts hl hS) (fun _ _ _ _ _ h => h)
  case F =>
    intro w mg fa h KX G hmg
    refine' LW.law_ok hmg (LW.txt_mk KX G ?a_products ?l_products ?c_products ?k_products ?a_how_many ?l_how_many ?c_how_many ?k_how_many ?a_single ?l_single ?c_single ?k_single ?a_same_map ?l_same_map ?c_same_map ?k_same_map ?a_places ?l_places ?c_places ?k_places ?a_call_map ?l_call_map ?c_call_map ?k_call_map ?a__law_deal ?l__law_deal ?c__law_deal ?k__law_deal ?a__law_draw ?l__law_draw ?c__law_draw ?k__law_draw ?a__law_count ?l__law_count ?c__law_count ?k__law_count ?a__law_products ?l__law_products ?c__law_products ?k__law_products ?a__law_alike ?l__law_alike ?c__law_alike ?k__law_alike ?a__law_number ?l__law_number ?c__law_number ?k__law_number ?a__law_map ?l__law_map ?c__law_map ?k__law_map ?a__law_due ?l__law_due ?c__law_due ?k__law_due ?a_law ?l_law ?c_law ?k_law ?z_all ?z_bool ?z_int ?z_isinstance ?z_len ?z_list ?z_max ?z_range ?z_reversed ?z_sorted ?z_sum ?z_tuple ?z_zip)
    (case a_products => k_is); (case l_products => k_is); (case c_products => k_is); (case k_products => k_is); (case a_how_many => k_is); (case l_how_many => k_is); (case c_how_many => k_is); (case k_how_many => k_is); (case a_single => k_is); (case l_single => k_is); (case c_single => k_is); (case k_single => k_is); (case a_same_map => k_is); (case l_same_map => k_is); (case c_same_map => k_is); (case k_same_map => k_is); (case a_places => k_is); (case l_places => k_is); (case c_places => k_is); (case k_places => k_is); (case a_call_map => k_is); (case l_call_map => k_is); (case c_call_map => k_is); (case k_call_map => k_is); (case a__law_deal => k_is); (case l__law_deal => k_is); (case c__law_deal => k_is); (case k__law_deal => k_is); (case a__law_draw => k_is); (case l__law_draw => k_is); (case c__law_draw => k_is); (case k__law_draw => k_is); (case a__law_count => k_is); (case l__law_count => k_is); (case c__law_count => k_is); (case k__law_count => k_is); (case a__law_products => k_is); (case l__law_products => k_is); (case c__law_products => k_is); (case k__law_products => k_is); (case a__law_alike => k_is); (case l__law_alike => k_is); (case c__law_alike => k_is); (case k__law_alike => k_is); (case a__law_number => k_is); (case l__law_number => k_is); (case c__law_number => k_is); (case k__law_number => k_is); (case a__law_map => k_is); (case l__law_map => k_is); (case c__law_map => k_is); (case k__law_map => k_is); (case a__law_due => k_is); (case l__law_due => k_is); (case c__law_due => k_is); (case k__law_due => k_is); (case a_law => k_is); (case l_law => k_is); (case c_law => k_is); (case k_law => k_is); (case z_all => k_is); (case z_bool => k_is); (case z_int => k_is); (case z_isinstance => k_is); (case z_len => k_is); (case z_list => k_is); (case z_max => k_is); (case z_range => k_is); (case z_reversed => k_is); (case z_sorted => k_is); (case z_sum => k_is); (case z_tuple => k_is); (case z_zip => k_is)
