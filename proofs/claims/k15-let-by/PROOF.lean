import PyProof.Rows.All
import Wide.All
import OpenK.AllK
import Wide.FinOn
import HandS.ForMost
import HandS.IsInst
import HandS.Rev
import HandS.Style
import HandS.Conv
import HandS.TupAny
import HandS.Evl
import HandS.Walk
import HandS.Deep
import HandS.Zip
import PyProof.ListStr
import KE.SortData
import KE.SortKeyHeap
import PyProof.ReprRoads
import KE.GoesEnum
import HandS.RaiseMore
import PyProof.ReprLen
import PyProof.Rows.RegStrFacts
import HandS.TryOnly
import PyProof.Rows.CallKwBuiltin
import HandS.TupMul
import HandS.DictTup
import HandS.TupLen
import HandS.Strs
import HandS.Replace
import HandS.SetFor
import PyProof.EnumMake
import PySem.Challenge.RW_curvekept_k15_programs_let_by
set_option Elab.async false
set_option linter.all false
set_option maxRecDepth 100000
set_option maxHeartbeats 2000000
/-! Rules of the layer with the written part as a letter of its own, so that they serve within comprehensions. -/
namespace CB
open PySem PySem.Spec PyProof.Rows L2
section
variable {X : Cx} {K : PySem.W.Frag} {tg e e2 : Expr} {es : List Expr} {ta : TA} {te tl : TE}
abbrev rLenQ (K : PySem.W.Frag) : List V → Hp → VK → Prop := fun xs H Q => ∃ p ys, xs = [.ref p] ∧ (SqL K H p ys ∨ SqT K H p ys) ∧ Q (.int ys.length) H
abbrev rListQ (K : PySem.W.Frag) : List V → Hp → VK → Prop := fun xs H Q => ∃ p ys, xs = [.ref p] ∧ (SqL K H p ys ∨ SqT K H p ys) ∧ ∀ l, H l = none → Q (.ref l) (upd H l (.lst ys))
abbrev rTupleQ (K : PySem.W.Frag) : List V → Hp → VK → Prop := fun xs H Q => ∃ p ys, xs = [.ref p] ∧ ((SqL K H p ys ∧ ∀ l, H l = none → Q (.ref l) (upd H l (.tup ys))) ∨ (SqT K H p ys ∧ Q (.ref p) H))
theorem call_lenK (hK : X.K = K := by rfl) : CallR X (.builtin "len") (rLenQ K) := hK ▸ call_len_seq
theorem call_listK (hK : X.K = K := by rfl) : CallR X (.type "list") (rListQ K) := hK ▸ call_list_of
theorem call_tupleK (hK : X.K = K := by rfl) : CallR X (.type "tuple") (rTupleQ K) := hK ▸ call_tuple_of
theorem cr_sumK (hc : X.calm = true) (hK : X.K = K := by rfl) : CallR X (.builtin "sum") (rSum K) := hK ▸ cr_sum hc
theorem cr_allK (hc : X.calm = true) (hK : X.K = K := by rfl) : CallR X (.builtin "all") (rAll K) := hK ▸ cr_all hc
theorem cr_anyK (hc : X.calm = true) (hK : X.K = K := by rfl) : CallR X (.builtin "any") (rAny K) := hK ▸ cr_any hc
theorem call_isiK' (hK : X.K = K := by rfl) : CallR X (.builtin "isinstance") (rIsi K) := hK ▸ call_isi
theorem ix_listK (hK : X.K = K := by rfl) : IxR X (rIxL K) := hK ▸ ix_list
theorem ix_tupK (hK : X.K = K := by rfl) : IxR X (rIxT K) := hK ▸ ix_tup
theorem sl_listK (hK : X.K = K := by rfl) : SlR X (rSlL K) := hK ▸ sl_list
theorem sl_tupK (hK : X.K = K := by rfl) : SlR X (rSlA K) := hK ▸ sl_tupA
theorem op_inK (hK : X.K = K := by rfl) : OpR X (compareOp .In) (rIn K false) := hK ▸ op_in_seq
theorem op_notInK (hK : X.K = K := by rfl) : OpR X (compareOp .NotIn) (rIn K true) := hK ▸ op_notIn_seq
theorem op_eqDK (hu : X.A.units + 64 < cLine) (hK : X.K = K := by rfl) : OpR X (compareOp .Eq) (rEqD K) := hK ▸ op_eqD hu
theorem op_neDK (hu : X.A.units + 64 < cLine) (hK : X.K = K := by rfl) : OpR X (compareOp .NotEq) (rNeD K) := hK ▸ op_neD hu
theorem op_catK (hK : X.K = K := by rfl) : OpR X (binaryOp .Add) (rCatA K) := hK ▸ op_catA
theorem pi_listK (hl : PE X e tl) (hK : X.K = K := by rfl) : PI X tg e (iList K tl) := hK ▸ pi_list hl
theorem pi_tupK (hl : PE X e tl) (hK : X.K = K := by rfl) : PI X tg e (iTup K tl) := hK ▸ pi_tup hl
theorem pi_enumK {p pos tpos : Pos} {elts : List Expr} {kk : Nat} (hg : Gl X "enumerate") (hm : X.mg "enumerate" = none) (ha : PA X [e] ta) (hs : starEach [e] X.env = [(false, eval e X.env)] := by rfl) (hK : X.K = K := by rfl) :
    PI X (.Tuple elts kk tpos) (.Call (.Name "enumerate" p) [e] [] pos) (iEnum K ta) := hK ▸ pi_enum hg hm ha hs
theorem pi_zipK {p pos tpos : Pos} {elts : List Expr} {kk : Nat} (hg : Gl X "zip") (hm : X.mg "zip" = none) (ha : PA X [e, e2] ta)
    (hs : starEach [e, e2] X.env = (false, eval e X.env) :: starEach [e2] X.env := by rfl) (hpl : (backTo pos (starEach [e2] X.env)).any (·.1) = false := by rfl) (hK : X.K = K := by rfl) :
    PI X (.Tuple elts kk tpos) (.Call (.Name "zip" p) [e, e2] [] pos) (iZip K ta) := hK ▸ pi_zip hg hm ha hs hpl
theorem pg_tupK {es : List Expr} {k n : Nat} {t : TGs} {pos : Pos} (hc : X.calm = true) (h : PGs X es t)
    (hn : (assignEach es X.env).length = n := by rfl) (hst : (assignEach es X.env).findIdx? (·.1) = none := by rfl) (hK : X.K = K := by rfl) : PG X (.Tuple es k pos) (gTup K n t) := hK ▸ pg_tup hc h hn hst
theorem pe_revK {k : Nat} {p1 p2 p3 pos : Pos} (he : PE X e te) (hK : X.K = K := by rfl) : PE X (.Subscript e (.Slice none none (some (.UnaryOp .USub (.Constant (.int 1) k p1) p2)) p3) pos) (tRevL K te) := hK ▸ pe_revL he
theorem pe_bmK {o : Expr} {to : TE} {T id : String} {name : Str} {r : V → List V → Hp → VK → Prop} {apos cpos : Pos} (pa : PlainAttrs T) (slot : Slot T name id) (hty : typeOf (.builtin id) = pure (.type "method_descriptor")) (hm : MtR X id r) (ho : PE X o to) (ha : PA X (e :: es) ta)
    (hbase : attributeBase o name X.env (eval o X.env) = eval o X.env := by rfl)
    (hfew : ((backTo cpos (starEach (e :: es) X.env)).all (fun x => !x.1) && (backToKw cpos (keywordEach [] X.env)).all (fun x => x.1.isSome)
      && decide ((e :: es).length + ([] : List Keyword).length + (if ([] : List Keyword).isEmpty then 0 else 1) < 30)) = true := by rfl)
    (hline : (apos.endLine == cpos.line) = true := by rfl) (hs : starEach (e :: es) X.env = (false, eval e X.env) :: starEach es X.env := by rfl) (hplain : (backTo cpos (starEach es X.env)).any (·.1) = false := by rfl) (hK : X.K = K := by rfl) :
    PE X (.Call (.Attribute o name apos) (e :: es) [] cpos) (tBM K T r to ta) := hK ▸ pe_bm pa slot hty hm ho ha hbase hfew hline hs hplain
end
end CB

set_option Elab.async false
set_option linter.all false
set_option maxRecDepth 100000
set_option maxHeartbeats 2000000
namespace CB
open PySem PySem.Spec PyProof.Rows L2

/-! ### the built-ins -/
theorem bt_abs : bootBuiltins "abs" = some (.builtin "abs") := by decide +kernel
theorem bt_all : bootBuiltins "all" = some (.builtin "all") := by decide +kernel
theorem bt_any : bootBuiltins "any" = some (.builtin "any") := by decide +kernel
theorem bt_isinstance : bootBuiltins "isinstance" = some (.builtin "isinstance") := by decide +kernel
theorem bt_len : bootBuiltins "len" = some (.builtin "len") := by decide +kernel
theorem bt_max : bootBuiltins "max" = some (.builtin "max") := by decide +kernel
theorem bt_min : bootBuiltins "min" = some (.builtin "min") := by decide +kernel
theorem bt_repr : bootBuiltins "repr" = some (.builtin "repr") := by decide +kernel
theorem bt_sorted : bootBuiltins "sorted" = some (.builtin "sorted") := by decide +kernel
theorem bt_sum : bootBuiltins "sum" = some (.builtin "sum") := by decide +kernel
theorem bt_ord : bootBuiltins "ord" = some (.builtin "ord") := by decide +kernel
theorem bt_chr : bootBuiltins "chr" = some (.builtin "chr") := by decide +kernel
theorem bt_bool : bootBuiltins "bool" = some (.type "bool") := by decide +kernel
theorem bt_dict : bootBuiltins "dict" = some (.type "dict") := by decide +kernel
theorem bt_int : bootBuiltins "int" = some (.type "int") := by decide +kernel
theorem bt_list : bootBuiltins "list" = some (.type "list") := by decide +kernel
theorem bt_set : bootBuiltins "set" = some (.type "set") := by decide +kernel
theorem bt_str : bootBuiltins "str" = some (.type "str") := by decide +kernel
theorem bt_tuple : bootBuiltins "tuple" = some (.type "tuple") := by decide +kernel
/-! ### list(reversed(l)) -/
section
variable {prog : Program} {w : World} {A : Around} {E : Value → Shared → Prop} {s : Shared}
theorem extend_rev {it l S : Addr} {items : Array Value} {c0 : Nat} {R : Result → Shared → Prop} (hh : A.handled = none) (hit : s.heap.IsRevIter it l ((items.size : Int) - 1)) (hl : s.heap.IsList l items) (hne : l ≠ it) (hn : items.size ≤ sizeLine)
    (hS : s.heap.get? S = some { cls := .type "list", data := .seq #[] c0 }) (hSi : S ≠ it) (hSl : S ≠ l)
    (hR : ∀ s' acc c', (∀ b o, b ≠ S → b ≠ it → s.heap.get? b = some o → s'.heap.get? b = some o) → (∃ h' tk, s' = { s with heap := h', toks := tk }) →
      s'.heap.get? S = some { cls := .type "list", dict := none, data := .seq acc c', slots := #[] } → ItemsOf (fun i v => items[items.size - 1 - i]? = some v) acc items.size → R (.ok (.ret .none)) s') :
    wpAny (model prog w) A.in1 (Builtin.List.listExtendWith (.ref S) (.ref it) .none)
      (fun fin s' => match fin with | .done f => R (.ok f) s' | .again c' => c'.quiet = true ∧ codeAny (model prog w) A c' R s') (fun e s' => R (.error e) s') s := by
  have W := (Walks.listRev (prog := prog) (w := w) (A := A.in1) hh it l hne items).toS
  have hSf : S ∉ [it, l] := by simp only [List.mem_cons, List.not_mem_nil, or_false, not_or]; exact ⟨hSi, hSl⟩
  have hT := hit.typeIs
  have h1 : Builtin.List.listSameRef (.ref S) (.ref it) = false := by simp [Builtin.List.listSameRef, hSi]
  unfold Builtin.List.listExtendWith
  refine wpAny_bind (wpAny_typeOf hT ?_)
  rw [if_neg (by rw [h1]; decide)]
  refine wpAny_bind (wpAny_pyIter_revIter hit ?_)
  refine wpAny_bind (wpAny_holding ?_)
  unfold Builtin.List.listLengthHint
  refine wpAny_bind (wpAny_specialOf hT RT.nolen_lri ?_)
  show wpAny _ A.in1 (specialOf (Value.ref it) (Str.ofString "__length_hint__") >>= _) _ _ _
  refine wpAny_bind (wpAny_specialOf hT RT.hint_lri ?_)
  generalize hid : ("list_reverseiterator.__length_hint__" : String) = id0
  wp_delta
  rw [show splitId id0 = some ("list_reverseiterator", "__length_hint__") from by subst hid; decide +kernel]
  subst hid
  refine wpAny_bind (wpAny_isInstance (b := true) hT (by rw [isSubtype_type]; kernel_rfl) ?_)
  refine wpAny_pure ?_
  rw [if_neg (by decide)]
  have e0 : ((items.size : Nat) : Int) - 1 - ((0 : Nat) : Int) = (items.size : Int) - 1 := by omega
  refine wpAny_pure ⟨plainId_quiet F.plain_extend_loop _, codeAny_extend_loopS W hn _ hSf _ items.size 0 _ _ _ rfl (Nat.zero_le _) ⟨Nat.zero_le _, by rw [e0]; exact hit, hl⟩ hS (ItemsOf.nil _) fun s' acc' c' hm hS' hacc => ?_⟩
  refine hR s' acc' c' (fun b o hb hb2 e => hm.heap b o (fun hmem => ?_) e) ⟨_, _, Moved.eq_with hm⟩ hS' hacc
  rcases List.mem_cons.mp hmem with e' | hmem
  · exact hb e'
  · exact hb2 (List.mem_singleton.mp hmem)
theorem call_list_rev {it l : Addr} {items : Array Value} {Q : Value → Shared → Prop} (hh : A.handled = none) (hit : s.heap.IsRevIter it l ((items.size : Int) - 1)) (hl : s.heap.IsList l items) (hne : l ≠ it) (hn : items.size ≤ sizeLine)
    (hQ : ∀ h' tk acc c', (∀ b o, b ≠ it → s.heap.get? b = some o → h'.get? b = some o) → h'.get? s.heap.objs.size = some { cls := .type "list", dict := none, data := .seq acc c', slots := #[] } →
      ItemsOf (fun i v => items[items.size - 1 - i]? = some v) acc items.size → Q (.ref s.heap.objs.size) { s with heap := h', toks := tk }) :
    wpAny (model prog w) A (call (.type "list") [.ref it]) Q E s := by
  obtain ⟨oi, hoi, _⟩ := id hit
  obtain ⟨ol, hol, _⟩ := id hl
  have hSi : s.heap.objs.size ≠ it := Nat.ne_of_gt (Heap.lt_size hoi)
  have hSl : s.heap.objs.size ≠ l := Nat.ne_of_gt (Heap.lt_size hol)
  refine callType_codes (Q₁ := fun obj s₁ => obj = .ref s.heap.objs.size ∧ s₁ = { s with heap := s.heap.push { cls := .type "list", data := .seq #[] } }) F.called_list (F.typeCall_list_1 _) F.entry_list_init
    (code_list_new _ ⟨rfl, rfl⟩) fun obj s₁ h₁ => ?_
  obtain ⟨rfl, rfl⟩ := h₁
  have hS : (s.heap.push { cls := .type "list", data := .seq #[] }).get? s.heap.objs.size = some { cls := .type "list", data := .seq #[] } := Heap.get?_push_size _ rfl
  refine ⟨⟨_, hS, rfl⟩, F.args_list_init_2 _ _, ?_⟩
  show wpAny _ A.in1.in1 (do let old ← Builtin.List.listItems (.ref s.heap.objs.size); Builtin.List.listUpdate (.ref s.heap.objs.size) (fun _ => #[]); letGo old.toList.reverse; Builtin.List.listExtendWith (.ref s.heap.objs.size) (.ref it) .none) _ _ _
  refine wpAny_bind ?_
  unfold Builtin.List.listItems
  refine wpAny_bind (wpAny_seqItems hS rfl (wpAny_pure ?_))
  show wpAny _ _ (updateSeq s.heap.objs.size (fun _ => #[]) >>= fun _ => letGo (#[] : Array Value).toList.reverse >>= fun _ => Builtin.List.listExtendWith (.ref s.heap.objs.size) (.ref it) .none) _ _ _
  refine wpAny_bind (wpAny_updateSeq hS rfl ?_)
  have hS2 := Heap.get?_update_self (Obj.mapSeq (fun _ => (#[] : Array Value))) hS rfl
  have oth : ∀ b o, s.heap.get? b = some o → ((s.heap.push { cls := .type "list", data := .seq #[] }).update s.heap.objs.size (Obj.mapSeq (fun _ => (#[] : Array Value)))).get? b = some o :=
    fun b o e => (Heap.get?_update_other _ _ (Nat.ne_of_gt (Heap.lt_size e))).trans (Heap.get?_push_of_some _ e)
  refine wpAny_bind (wpAny_letGo ?_)
  refine extend_rev (A := A.in1) hh (hit.at fun o e => oth _ o e) (Heap.IsList.at hl fun o e => oth _ o e) hne hn hS2 hSi hSl fun s' acc c' hk he hS' hi => ?_
  obtain ⟨h', tk, rfl⟩ := he
  exact ⟨rfl, hQ h' tk acc c' (fun b o hb e => hk b o (Nat.ne_of_lt (Heap.lt_size e)) hb (oth b o e)) hS' hi⟩
end
/-- list(reversed(x)), x a list: a new list -/
def tListRev (K : PySem.W.Frag) (te : TE) : TE := fun σ H Q => te σ H fun v H1 => ∃ (a : Addr) (xs : List V), v = .ref a ∧ SqL K H1 a xs ∧ ∀ q, H1 q = none → Q (.ref q) (upd H1 q (.lst xs.reverse))
section
variable {X : Cx}
theorem pe_listRev0 {e : Expr} {te : TE} {p p2 pos pos2 : Pos} (hc : X.calm = true) (hg : Gl X "list") (hm : X.mg "list" = none) (hg2 : Gl X "reversed") (hm2 : X.mg "reversed" = none) (he : PE X e te)
    (hs : starEach [e] X.env = (false, eval e X.env) :: starEach [] X.env := by rfl)
    (hs2 : starEach [.Call (.Name "reversed" p2) [e] [] pos2] X.env = (false, eval (.Call (.Name "reversed" p2) [e] [] pos2) X.env) :: starEach [] X.env := by rfl) :
    PE X (.Call (.Name "list" p) [.Call (.Name "reversed" p2) [e] [] pos2] [] pos) (tListRev X.K te) := by
  refine ⟨fun pins s σ H Q I h => ?_⟩
  refine Call_ (ld_blt I hg hm boot_list (PyProof.Rows.callWith_type1 (args_cons (Call_ (ld_blt I hg2 hm2 PyProof.Rows.boot_reversed (PyProof.Rows.callWith_type1 (args_cons (thn (he.run pins s σ H _ I h) fun u s1 ⟨v, H1, I1, r1, q1⟩ => args_nil ?_) hs) hs rfl))) hs2) hs2 rfl))
  obtain ⟨a, xs, ev, hq, q⟩ := q1
  subst ev
  obtain rfl : u = Value.ref a := r1
  obtain ⟨its, rv, p', hz⟩ := I1.list hq
  refine call_reversed_list p'.isList (args_nil ?_)
  have k0 : ∀ b o, s1.heap.get? b = some o → (s1.heap.push (revObj a ((its.toArray.size : Int) - 1))).get? b = some o := fun b o e => Heap.get?_push_of_some _ e
  have I2 : Inv X pins σ H1 { s1 with heap := s1.heap.push (revObj a ((its.toArray.size : Int) - 1)) } := I1.kept (t' := s1.toks) k0
  obtain ⟨f0, f1, f2, f3, f4, f5⟩ := I1.fpOk (H' := H1) (b := s1.heap.objs.size) (Nat.le_refl _) (I1.hok.fresh (Nat.le_refl _))
  have hl := p'.isList
  obtain ⟨ol, hol, _⟩ := id hl
  have hne : a ≠ s1.heap.objs.size := Nat.ne_of_lt (Heap.lt_size hol)
  have hn : its.toArray.size ≤ sizeLine := by rw [List.size_toArray, ← rv.length]; exact hz
  refine call_list_rev (s := { s1 with heap := s1.heap.push (revObj a ((its.toArray.size : Int) - 1)) }) (I1.ok.hd hc) ⟨_, Heap.get?_push_size _ rfl, rfl, rfl⟩ (hl.push _) hne hn fun h' tk acc c' hk hS' hi => ?_
  refine ⟨.ref _, upd H1 _ (.lst xs.reverse), I1.laid (t' := tk) (fun b u e => hk b u (Nat.ne_of_lt (Heap.lt_size e)) (k0 b u e)) (by rw [Heap.size_push]; omega) (show ObjOk X.prog X.w _ _ _ (.lst xs.reverse) from ⟨by rw [List.length_reverse]; exact hz, acc.toList, c', RT.vals_rev rv hi, ?_⟩), rfl, q _ (I2.hok.fresh (Nat.le_refl _))⟩
  rw [Array.toArray_toList]
  exact hS'
theorem pe_listRev {K : PySem.W.Frag} {e : Expr} {te : TE} {p p2 pos pos2 : Pos} (hc : X.calm = true) (hg : Gl X "list") (hm : X.mg "list" = none) (hg2 : Gl X "reversed") (hm2 : X.mg "reversed" = none) (he : PE X e te)
    (hs : starEach [e] X.env = (false, eval e X.env) :: starEach [] X.env := by rfl)
    (hs2 : starEach [.Call (.Name "reversed" p2) [e] [] pos2] X.env = (false, eval (.Call (.Name "reversed" p2) [e] [] pos2) X.env) :: starEach [] X.env := by rfl) (hK : X.K = K := by rfl) :
    PE X (.Call (.Name "list" p) [.Call (.Name "reversed" p2) [e] [] pos2] [] pos) (tListRev K te) := hK ▸ pe_listRev0 hc hg hm hg2 hm2 he hs hs2
/-! ### list(a text) -/
theorem call_listS (hc : X.calm = true) : CallR X (.type "list") (fun xs H Q => ∃ z : Str, xs = [.str z] ∧ z.length ≤ sizeLine ∧ ∀ l, H l = none → Q (.ref l) (upd H l (.lst (z.cps.toList.map fun c => V.str ⟨#[c]⟩)))) := by
  intro pins s σ H xs us Q I r h
  obtain ⟨z, rfl, hz, q⟩ := h
  obtain ⟨u, rfl, t, rfl⟩ := vals1 r
  refine PySem.call_list_str (I.ok.hd hc) z t (fun h' tk acc' c' hk hS hi => ?_) hz
  refine ⟨.ref s.heap.objs.size, upd H s.heap.objs.size _, I.laid hk (Nat.le_refl _) (show ObjOk X.prog X.w _ _ _ (.lst (z.cps.toList.map fun c => V.str ⟨#[c]⟩)) from ⟨?_, acc'.toList, c', ?_, ?_⟩), rfl, q _ (I.hok.fresh (Nat.le_refl _))⟩
  · rw [List.length_map, Array.length_toList]; exact hz
  · have el : acc'.toList.length = acc'.size := by simp
    refine vals_of_at (by rw [List.length_map, Array.length_toList, el, hi.1]) fun j x w h1 h2 => ?_
    have h3 := hi.2 j w (by rw [← Array.getElem?_toList]; exact h2)
    rw [List.getElem?_map] at h1
    obtain ⟨c, hc1, rfl⟩ := Option.map_eq_some_iff.mp h1
    obtain ⟨c2, u, e1, rfl⟩ := h3
    rw [Array.getElem?_toList] at hc1
    rw [hc1] at e1
    cases e1
    exact ⟨u, rfl⟩
  · rw [Array.toArray_toList]; exact hS
end
end CB

set_option Elab.async false
set_option linter.all false
set_option maxRecDepth 100000
set_option maxHeartbeats 2000000
/-! zip of two sequences, each a list or a tuple, in any mix -/
namespace CB
open PySem PySem.Spec PyProof.Rows L2
inductive SK | L | T
def SqK (k : SK) (K : PySem.W.Frag) (H : Hp) (a : Addr) (xs : List V) : Prop := match k with | .L => SqL K H a xs | .T => SqT K H a xs
def IterK (k : SK) (h : Heap) (it a : Addr) (i : Nat) : Prop := match k with | .L => h.IsListIter it a i | .T => h.IsTupleIter it a i
def HasK (k : SK) (h : Heap) (a : Addr) (items : Array Value) : Prop := match k with | .L => h.IsList a items | .T => h.IsTuple a items
def iterObj (k : SK) (a : Addr) : Obj := match k with | .L => { cls := .type "list_iterator", data := .fields #[.ref a, .int 0 0] } | .T => { cls := .type "tuple_iterator", data := .fields #[.ref a, .int 0 0] }
section
variable {k : SK} {h h' : Heap} {it a : Addr} {i : Nat} {items : Array Value}
theorem IterK.at (x : IterK k h it a i) (e : ∀ o, h.get? it = some o → h'.get? it = some o) : IterK k h' it a i := by
  cases k with
  | L => exact Heap.IsListIter.at x e
  | T => exact Heap.IsTupleIter.at x e
theorem IterK.obj (x : IterK k h it a i) : ∃ o, h.get? it = some o ∧ ∀ v, o.data ≠ .cell v := by
  cases k with
  | L =>
    obtain ⟨o, e, _, d⟩ := x
    exact ⟨o, e, fun v q => by rw [d] at q; cases q⟩
  | T =>
    obtain ⟨o, e, _, d⟩ := x
    exact ⟨o, e, fun v q => by rw [d] at q; cases q⟩
theorem IterK.start (e : h.get? it = some (iterObj k a)) : IterK k h it a 0 := by
  cases k with
  | L => exact ⟨_, e, rfl, rfl⟩
  | T => exact ⟨_, e, rfl, rfl⟩
theorem HasK.lt (x : HasK k h a items) : a < h.objs.size := by
  cases k with
  | L => obtain ⟨o, e, _⟩ := x; exact Heap.lt_size e
  | T => obtain ⟨o, e, _⟩ := x; exact Heap.lt_size e
theorem drawsK {prog : Program} {w : World} {A : Around} (hh : A.handled = none) (k : SK) (it a : Addr) (hne : a ≠ it) (items : Array Value) :
    Draws prog w A it [it, a] items.size (fun i v => items[i]? = some v) (fun i h => IterK k h it a i ∧ HasK k h a items) := by
  cases k with
  | L => exact Draws.list hh it a hne items
  | T => exact Draws.tuple hh it a hne items
theorem beginsK (k : SK) (a : Addr) (items : Array Value) : Begins (.ref a) (iterObj k a) fun h => HasK k h a items := by
  cases k with
  | L => exact begins_list a items
  | T => exact begins_tuple a items
theorem InvK {X : Cx} {pins : List (Addr × Obj)} {σ : L2.St} {H : Hp} {s : Shared} {xs : List V} (I : Inv X pins σ H s) (hq : SqK k X.K H a xs) : ∃ its : List Value, Vals xs its ∧ HasK k s.heap a its.toArray ∧ ∀ ys, SqK k X.K H a ys → ys = xs := by
  cases k with
  | L =>
    obtain ⟨its, rv, p, _⟩ := I.list hq
    exact ⟨its, rv, p.isList, fun ys hy => I.list_inj hy hq⟩
  | T =>
    obtain ⟨its, rv, p, _⟩ := I.tuple hq
    exact ⟨its, rv, p, fun ys hy => I.tuple_inj hy hq⟩
end
def ItzK (k1 k2 : SK) (K : PySem.W.Frag) (a b : Addr) : It :=
  ⟨fun i H => ∃ (xs ys : List V) (x y : V), SqK k1 K H a xs ∧ SqK k2 K H b ys ∧ xs[i]? = some x ∧ ys[i]? = some y,
    fun i H v H' => ∃ T x y, v = .ref T ∧ H T = none ∧ H' = upd H T (.tup [x, y]) ∧ (∀ xs, SqK k1 K H a xs → xs[i]? = some x) ∧ ∀ ys, SqK k2 K H b ys → ys[i]? = some y,
    fun i H => ∃ xs ys : List V, SqK k1 K H a xs ∧ SqK k2 K H b ys ∧ i ≤ xs.length ∧ i ≤ ys.length ∧ (i = xs.length ∨ i = ys.length)⟩
theorem turn_zipK {P : Program} {w : World} {K : PySem.W.Frag} {elts : List Expr} {kk : Nat} {tpos : Pos} {k1 k2 : SK} {a b z TI TO i1 i2 : Addr} (S : ZipSep2 z TI TO i1 i2 [i1, a] [i2, b]) (na : a ≠ i1) (nb : b ≠ i2) :
    Turn P w K (.Tuple elts kk tpos) (ItzK k1 k2 K a b) [z, TI, TO, i1, i2] z (fun i h => IsZip h z TI TO .none ∧ IsTupOf2 h TI (.ref i1) (.ref i2) ∧ (∃ x y, IsTupOf2 h TO x y) ∧ IterK k1 h i1 a i ∧ IterK k2 h i2 b i) where
  mem := by simp
  obj := fun i h st c hc => by
    obtain ⟨hz, hTI, ⟨x, y, hTO⟩, h1, h2⟩ := st
    simp only [List.mem_cons, List.not_mem_nil, or_false] at hc
    rcases hc with rfl | rfl | rfl | rfl | rfl
    · exact ⟨_, hz, fun v q => nomatch q⟩
    · exact ⟨_, hTI, fun v q => nomatch q⟩
    · exact ⟨_, hTO, fun v q => nomatch q⟩
    · exact h1.obj
    · exact h2.obj
  keep := fun i h h' st k => by
    obtain ⟨hz, hTI, ⟨x, y, hTO⟩, h1, h2⟩ := st
    exact ⟨k z (by simp) _ hz, k TI (by simp) _ hTI, ⟨x, y, k TO (by simp) _ hTO⟩, h1.at fun o q => k i1 (by simp) o q, h2.at fun o q => k i2 (by simp) o q⟩
  item := by
    intro X hP hw hK hc i pins s σ H E I hf st hg
    subst hP hw hK
    obtain ⟨hz, hTI, ⟨x0, y0, hTO⟩, h1, h2⟩ := st
    obtain ⟨xs, ys, x, y, hqx, hqy, hx, hy⟩ := hg
    obtain ⟨its, rv, p, inj1⟩ := InvK I hqx
    obtain ⟨its2, rv2, p2, inj2⟩ := InvK I hqy
    obtain ⟨u, hu, ru⟩ := rv.get hx
    obtain ⟨u2, hu2, ru2⟩ := rv2.get hy
    have hA : X.A.in1.handled = none := I.ok.hd hc
    have D1 := drawsK (prog := X.prog) (w := X.w) hA k1 i1 a na its.toArray
    have D2 := drawsK (prog := X.prog) (w := X.w) hA k2 i2 b nb its2.toArray
    have hzl : z < s.heap.objs.size := Heap.lt_size hz
    have lt1 : i < its.toArray.size := by
      have := (List.getElem?_eq_some_iff.mp hu).1
      simpa using this
    have lt2 : i < its2.toArray.size := by
      have := (List.getElem?_eq_some_iff.mp hu2).1
      simpa using this
    refine wpAny_pyNext_zipD2_item S D1 D2 hz hTI hTO ⟨h1, p⟩ ⟨h2, p2⟩ lt1 lt2 fun x1 x2 h' tk y1 y2 z' TO' st1 st2 hT hsz hk => ?_
    have e1 : x1 = u := by
      have q : its.toArray[i]? = some u := by simpa using hu
      rw [q] at y1
      exact (Option.some.inj y1).symm
    have e2 : x2 = u2 := by
      have q : its2.toArray[i]? = some u2 := by simpa using hu2
      rw [q] at y2
      exact (Option.some.inj y2).symm
    subst e1 e2
    refine ⟨_, rfl, wpAny_letOwnedTupleGo_zip (s := { s with heap := h', toks := tk }) z' fun h'' z'' sb => ?_⟩
    have hT2 : h''.get? s.heap.objs.size = some { cls := .type "tuple", data := .seq #[x1, x2] } := (sb.2 _ (Nat.ne_of_gt hzl)).trans hT
    have new : ObjOk X.prog X.w (upd H s.heap.objs.size (.tup [x, y])) h'' s.heap.objs.size (.tup [x, y]) :=
      ⟨by show 2 ≤ sizeLine; decide, [x1, x2], .cons ru (.cons ru2 .nil), ⟨_, hT2, rfl, _, rfl⟩⟩
    have I1 : Inv X pins σ (upd H s.heap.objs.size (.tup [x, y])) { s with heap := h'', toks := tk } :=
      I.turnedNew (t' := tk) (ch := [z, TI, TO, i1, i2]) (fun c o hb q => by
        simp only [List.mem_cons, List.not_mem_nil, or_false, not_or] at hb
        exact (sb.2 c hb.1).trans (hk c o hb.1 hb.2.2.1 hb.2.2.2.1 hb.2.2.2.2 q)) hf (Nat.le_refl _) new
    refine ⟨.ref s.heap.objs.size, _, I1, rfl, ⟨_, x, y, rfl, I.hok.fresh (Nat.le_refl _), rfl, fun l hl => by rw [inj1 l hl]; exact hx, fun l hl => by rw [inj2 l hl]; exact hy⟩, ⟨z'', ?_, ⟨x1, x2, ?_⟩, ?_, ?_⟩, fun c hcm => ?_⟩
    · exact (sb.2 _ S.TIz).trans (hk _ _ S.TIz S.TITO S.TIi1 S.TIi2 hTI)
    · exact (sb.2 _ S.TOz).trans TO'
    · exact st1.1.at fun o q => (sb.2 _ S.zi1.symm).trans q
    · exact st2.1.at fun o q => (sb.2 _ S.zi2.symm).trans q
    · have hlt : c < s.heap.objs.size := by
        simp only [List.mem_cons, List.not_mem_nil, or_false] at hcm
        rcases hcm with rfl | rfl | rfl | rfl | rfl
        · exact hzl
        · exact Heap.lt_size hTI
        · exact Heap.lt_size hTO
        · obtain ⟨_, e1, _⟩ := h1.obj; exact Heap.lt_size e1
        · obtain ⟨_, e2, _⟩ := h2.obj; exact Heap.lt_size e2
      rw [upd_ne (Nat.ne_of_lt hlt)]
      exact (hf c hcm).1
  done := by
    intro X hP hw hK hc i pins s σ H E I hf st hg
    subst hP hw hK
    obtain ⟨hz, hTI, ⟨x0, y0, hTO⟩, h1, h2⟩ := st
    obtain ⟨xs, ys, hqx, hqy, le1, le2, hend⟩ := hg
    obtain ⟨its, rv, p, inj1⟩ := InvK I hqx
    obtain ⟨its2, rv2, p2, inj2⟩ := InvK I hqy
    have l1 := rv.length
    have l2 := rv2.length
    have hA : X.A.in1.handled = none := I.ok.hd hc
    refine wpAny_pyNext_zipD2_end S (drawsK (prog := X.prog) (w := X.w) hA k1 i1 a na its.toArray) (drawsK (prog := X.prog) (w := X.w) hA k2 i2 b nb its2.toArray) hz hTI hTO ⟨h1, p⟩ ⟨h2, p2⟩ (by rw [List.size_toArray]; omega) (by rw [List.size_toArray]; omega) (by rw [List.size_toArray, List.size_toArray]; omega) fun h' tk hk => ?_
    refine ⟨rfl, I.turnedL (t' := tk) (ch := [z, TI, TO, i1, i2]) (fun c o hb q => ?_) hf⟩
    simp only [List.mem_cons, List.not_mem_nil, or_false, not_or] at hb
    exact hk c o hb.1 hb.2.2.1 hb.2.2.2.1 hb.2.2.2.2 q
  self := fun A i s Q E st h => wpAny_pyIter_zip st.1 h
def iZipK (k1 k2 : SK) (K : PySem.W.Frag) (ta : TA) : TI := fun σ H R => ta σ H fun vs H1 => ∃ a b xs ys, vs = [.ref a, .ref b] ∧ SqK k1 K H1 a xs ∧ SqK k2 K H1 b ys ∧ R (ItzK k1 k2 K a b) H1
theorem pi_zipM (k1 k2 : SK) {X : Cx} {K : PySem.W.Frag} {e e2 : Expr} {ta : TA} {p pos tpos : Pos} {elts : List Expr} {kk : Nat} (hg : Gl X "zip") (hm : X.mg "zip" = none) (ha : PA X [e, e2] ta)
    (hs : starEach [e, e2] X.env = (false, eval e X.env) :: starEach [e2] X.env := by rfl) (hpl : (backTo pos (starEach [e2] X.env)).any (·.1) = false := by rfl) (hK : X.K = K := by rfl) :
    PI X (.Tuple elts kk tpos) (.Call (.Name "zip" p) [e, e2] [] pos) (iZipK k1 k2 K ta) := by
  subst hK
  refine ⟨fun pins s σ H R I h => ?_⟩
  refine Call_ (ld_blt I hg hm PyProof.Rows.boot_zip (PyProof.Rows.callWith_type1 (thn (ha.run pos pins s σ H _ I h) fun us s1 hus => ?_) hs hpl))
  obtain ⟨vs, H1, I1, r1, a, b, xs, ys, rfl, hqx, hqy, q⟩ := hus
  obtain ⟨u1, u2, rfl, ra, rb⟩ := vals2 r1
  obtain rfl : u1 = Value.ref a := ra
  obtain rfl : u2 = Value.ref b := rb
  obtain ⟨its, rv, p1, _⟩ := InvK I1 hqx
  obtain ⟨its2, rv2, p2, _⟩ := InvK I1 hqy
  refine zip_begins2 (beginsK k1 a its.toArray) (beginsK k2 b its2.toArray) p1 p2 fun h' hz hTI hTO h1 h2 hsz hk => wpAny_pyIter_zip hz ?_
  have I2 : Inv X pins σ H1 { s1 with heap := h' } := I1.kept (t' := s1.toks) hk
  have la : a < s1.heap.objs.size := p1.lt
  have lb : b < s1.heap.objs.size := p2.lt
  have S : ZipSep2 (s1.heap.objs.size + 4) (s1.heap.objs.size + 2) (s1.heap.objs.size + 3) s1.heap.objs.size (s1.heap.objs.size + 1) (s1.heap.objs.size :: [a]) ((s1.heap.objs.size + 1) :: [b]) :=
    zip_sep2 (fun c hc => by rw [List.mem_singleton.mp hc]; exact la) (fun c hc => by rw [List.mem_singleton.mp hc]; exact lb)
  refine ⟨s1.heap.objs.size + 4, [s1.heap.objs.size + 4, s1.heap.objs.size + 2, s1.heap.objs.size + 3, s1.heap.objs.size, s1.heap.objs.size + 1], _, _, H1, rfl, I2, turn_zipK S (Nat.ne_of_lt la) (Nat.ne_of_lt (Nat.lt_succ_of_lt lb)), ⟨hz, hTI, ⟨_, _, hTO⟩, IterK.start h1, IterK.start h2⟩, fun c hc => ?_, q⟩
  have hle : s1.heap.objs.size ≤ c := by
    simp only [List.mem_cons, List.not_mem_nil, or_false] at hc
    rcases hc with rfl | rfl | rfl | rfl | rfl
    · exact Nat.le_add_right _ _
    · exact Nat.le_add_right _ _
    · exact Nat.le_add_right _ _
    · exact Nat.le_refl _
    · exact Nat.le_add_right _ _
  have := I1.fpOk (H' := H1) hle (I1.hok.fresh hle)
  exact this
theorem walk_zipM {k1 k2 : SK} {K : PySem.W.Frag} {a b : Addr} {xs ys : List V} {n : Nat} (hn : n = min xs.length ys.length) :
    Walk (ItzK k1 k2 K a b) n (fun H => SqK k1 K H a xs ∧ SqK k2 K H b ys) (YPair (fun i => xs[i]?) (fun i => ys[i]?)) := by
  subst hn
  refine ⟨fun i _ hi q => ?_, fun _ q => ⟨xs, ys, q.1, q.2, by omega, by omega, by omega⟩, fun i H v H' _ q y => ?_⟩
  · have h1 : i < xs.length := by omega
    have h2 : i < ys.length := by omega
    exact ⟨xs, ys, xs[i], ys[i], q.1, q.2, by simp [h1], by simp [h2]⟩
  · obtain ⟨T, x, z, h1, h2, h3, h4, h5⟩ := y
    exact ⟨T, x, z, h1, h2, h3, h4 xs q.1, h5 ys q.2⟩
/-! ### xs.extend(t), t a list or a tuple -/
section
variable {prog : Program} {w : World} {A : Around} {E : Value → Shared → Prop} {s : Shared}
theorem call_extend_seq {k : SK} {l b : Addr} {its its2 : Array Value} {n : Nat} {Q : Value → Shared → Prop} (hl : s.heap.get? l = some { cls := .type "list", data := .seq its n }) (hb : HasK k s.heap b its2) (hz : its.size + its2.size ≤ sizeLine)
    (h : Q .none { s with heap := s.heap.update l (Obj.mapSeq (· ++ its2)) }) : wpAny (model prog w) A (call (.builtin "list.extend") [.ref l, .ref b]) Q E s := by
  have hT : s.TypeIs (.ref l) "list" := ⟨_, hl, rfl⟩
  have hlong : Builtin.List.listTooLong (its.size + its2.size) = false := notLongL hz
  obtain ⟨ob, T, hob, hcb, hTT, nb, hdb⟩ : ∃ (ob : Obj) (T : String), s.heap.get? b = some ob ∧ ob.cls = .type T ∧ (T = "list" ∨ T = "tuple") ∧ ∃ nb, ob.data = .seq its2 nb := by
    cases k with
    | L => obtain ⟨o, e1, e2, n2, e3⟩ := hb; exact ⟨o, "list", e1, e2, .inl rfl, n2, e3⟩
    | T => obtain ⟨o, e1, e2, n2, e3⟩ := hb; exact ⟨o, "tuple", e1, e2, .inr rfl, n2, e3⟩
  refine wpAny_call_entry F.slot_list_extend hT F.entry_list_extend ?_ (F.args_list_extend_2 _ _)
  show wpAny _ _ (Builtin.List.listExtendWith (.ref l) (.ref b) .none) _ _ s
  unfold Builtin.List.listExtendWith
  refine wpAny_bind (wpAny_typeOf (T := T) ⟨ob, hob, hcb⟩ ?_)
  have hc : (Builtin.List.listSameRef (.ref l) (.ref b) || Value.type T == Value.type "list" || Value.type T == Value.type "tuple") = true := by
    rcases hTT with rfl | rfl
    · simp
    · simp
  rw [if_pos hc]
  refine wpAny_bind (wpAny_listItems hob hdb ?_)
  refine wpAny_bind (wpAny_listItems hl rfl ?_)
  rw [hlong, Bool.and_false]
  refine wpAny_bind ?_
  show wpAny _ _ (updateSeq l (· ++ its2)) _ _ _
  refine wpAny_updateSeq hl rfl (wpAny_pure ⟨_, rfl, h⟩) (by omega) (by rw [Array.size_append]; omega)
end
section
variable {X : Cx}
def rExtK (k : SK) (K : PySem.W.Frag) : V → List V → Hp → VK → Prop := fun x vs H Q => ∃ l b xs zs, x = .ref l ∧ vs = [.ref b] ∧ H l = some (.lst xs) ∧ SqK k K H b zs ∧ xs.length + zs.length ≤ sizeLine ∧ Q .non (upd H l (.lst (xs ++ zs)))
theorem mt_extK (k : SK) {K : PySem.W.Frag} (hK : X.K = K := by rfl) : MtR X "list.extend" (rExtK k K) := by
  subst hK
  intro pins s σ H x vs v us Q I rx rv h
  obtain ⟨l, b, xs, zs, rfl, rfl, hH, hB, hz, q⟩ := h
  cases rx
  obtain ⟨u, rfl, ru⟩ := rv.one
  cases ru
  obtain ⟨z, its, n, r, hl, e⟩ := I.lstM hH
  obtain ⟨its2, r2, h2, _⟩ := InvK I hB
  have l2 := r2.length
  refine call_extend_seq e h2 (by rw [List.size_toArray, List.size_toArray]; omega) ?_
  refine ⟨.non, _, I.lset (its' := its ++ its2) hH e (by simp) (r.append r2) ?_, rfl, q⟩
  rw [List.length_append]
  omega
end
end CB

set_option Elab.async false
set_option linter.all false
set_option maxRecDepth 100000
set_option maxHeartbeats 2000000
namespace CB
open PySem PySem.Spec PyProof.Rows L2

abbrev Ex := Evl.Ex
/-! ### what is frozen (F) within what stands (H) -/
structure Gr (S : Addr → Prop) (F H F' H' : Hp) : Prop where
  fz : Ex F F'
  sub : Ex F' H'
  kp : ∀ a o, ¬ S a → H a = some o → H' a = some o
  al : ∀ a, H a ≠ none → H' a ≠ none
  nf : ∀ a, F a = none → H a ≠ none → F' a = none
abbrev NoS : Addr → Prop := fun _ => False
abbrev DL (d l : Addr) : Addr → Prop := fun a => a = d ∨ a = l
section
variable {S : Addr → Prop} {F H F1 H1 F2 H2 : Hp} {p : Addr} {o x : HO}
theorem Gr.refl (h : Ex F H) : Gr S F H F H := ⟨fun _ _ e => e, h, fun _ _ _ e => e, fun _ e => e, fun _ e _ => e⟩
theorem Gr.trans (g : Gr S F H F1 H1) (k : Gr S F1 H1 F2 H2) : Gr S F H F2 H2 :=
  ⟨g.fz.trans k.fz, k.sub, fun a o n e => k.kp a o n (g.kp a o n e), fun a e => k.al a (g.al a e), fun a e n => k.nf a (g.nf a e n) (g.al a n)⟩
theorem Gr.mono {S' : Addr → Prop} (g : Gr S F H F1 H1) (h : ∀ a, S a → S' a) : Gr S' F H F1 H1 :=
  ⟨g.fz, g.sub, fun a o n e => g.kp a o (fun z => n (h a z)) e, g.al, g.nf⟩
theorem Gr.pure (g : Gr NoS F H F1 H1) : Gr S F H F1 H1 := g.mono fun _ h => h.elim
theorem Gr.ex (g : Gr NoS F H F1 H1) : Ex H H1 := fun a o e => g.kp a o (fun h => h) e
theorem sub_none (h : Ex F H) (e : H p = none) : F p = none := Evl.fresh_back h e
/-- a new object, frozen at once -/
theorem Gr.new (g : Gr S F H F1 H1) (hp : H1 p = none) : Gr S F H (upd F1 p o) (upd H1 p o) := by
  have hf : F1 p = none := sub_none g.sub hp
  refine ⟨g.fz.trans (Evl.Ex.new hf), fun a u e => ?_, fun a u n e => ?_, fun a e => ?_, fun a e n => ?_⟩
  · by_cases h : a = p
    · subst h; rw [upd_same] at e ⊢; exact e
    · rw [upd_ne h] at e ⊢; exact g.sub a u e
  · have := g.kp a u n e
    rw [upd_ne (ne_of_none this hp)]; exact this
  · have := g.al a e
    by_cases h : a = p
    · subst h; exact absurd hp this
    · rw [upd_ne h]; exact this
  · have h : a ≠ p := fun h => g.al a n (h ▸ hp)
    rw [upd_ne h]; exact g.nf a e n
/-- a new object that may still change -/
theorem Gr.newm (g : Gr S F H F1 H1) (hp : H1 p = none) : Gr S F H F1 (upd H1 p o) := by
  refine ⟨g.fz, fun a u e => ?_, fun a u n e => ?_, fun a e => ?_, g.nf⟩
  · have := g.sub a u e
    rw [upd_ne (ne_of_none this hp)]; exact this
  · have := g.kp a u n e
    rw [upd_ne (ne_of_none this hp)]; exact this
  · have := g.al a e
    by_cases h : a = p
    · subst h; exact absurd hp this
    · rw [upd_ne h]; exact this
/-- an object of ours (new since the start, not frozen) changes -/
theorem Gr.mut (g : Gr S F H F1 H1) (hp : H p = none) (hf : F1 p = none) : Gr S F H F1 (upd H1 p o) := by
  refine ⟨g.fz, fun a u e => ?_, fun a u n e => ?_, fun a e => ?_, g.nf⟩
  · rw [upd_ne (ne_of_none e hf)]; exact g.sub a u e
  · rw [upd_ne (ne_of_none e hp)]; exact g.kp a u n e
  · by_cases h : a = p
    · subst h; rw [upd_same]; exact fun z => by cases z
    · rw [upd_ne h]; exact g.al a e
/-- an object of ours is frozen -/
theorem Gr.freeze (g : Gr S F H F1 H1) (hp : H p = none) (hf : F1 p = none) (ho : H1 p = some o) : Gr S F H (upd F1 p o) H1 := by
  refine ⟨g.fz.trans (Evl.Ex.new hf), fun a u e => ?_, g.kp, g.al, fun a e n => ?_⟩
  · by_cases h : a = p
    · subst h; rw [upd_same] at e; cases e; exact ho
    · rw [upd_ne h] at e; exact g.sub a u e
  · have h : a ≠ p := fun h => n (h ▸ hp)
    rw [upd_ne h]; exact g.nf a e n
/-- what is not frozen and stands stays so -/
theorem Gr.keepm (g : Gr S F H F1 H1) (hs : ¬ S p) (hf : F p = none) (ho : H p = some o) : F1 p = none ∧ H1 p = some o :=
  ⟨g.nf p hf (by rw [ho]; exact fun z => by cases z), g.kp p o hs ho⟩
theorem Gr.none (g : Gr S F H F1 H1) (h : H1 p = none) : H p = none := by
  cases e : H p with
  | none => rfl
  | some o => exact absurd h (g.al p (by rw [e]; exact fun z => by cases z))
theorem Gr.exs (g : Gr S F H F1 H1) : Ex F H1 := g.fz.trans g.sub
end
end CB
namespace L2
open PySem PySem.Spec PyProof.Rows CB
section
variable {K : PySem.W.Frag} {F F' H : Hp} {a : Addr} {xs : List V}
theorem ex_L (e : Ex F F') (h : SqL K F a xs) : SqL K F' a xs := Evl.ex_l e h
theorem ex_T (e : Ex F F') (h : SqT K F a xs) : SqT K F' a xs := Evl.ex_t e h
mutual
theorem Dp.ex (e : Ex F F') : ∀ {v : V} {d : PyData}, Dp K F v d → Dp K F' v d
  | _, _, .non => .non
  | _, _, .bl b => .bl b
  | _, _, .int i => .int i
  | _, _, .str x => .str x
  | _, _, .lst h hs => .lst (ex_L e h) (DpAll.ex e hs)
  | _, _, .tup h hs => .tup (ex_T e h) (DpAll.ex e hs)
theorem DpAll.ex (e : Ex F F') : ∀ {vs : List V} {ds : List PyData}, DpAll K F vs ds → DpAll K F' vs ds
  | _, _, .nil => .nil
  | _, _, .cons h hs => .cons (Dp.ex e h) (DpAll.ex e hs)
end
theorem DpAll.length : ∀ {vs : List V} {ds : List PyData}, DpAll K F vs ds → vs.length = ds.length
  | _, _, .nil => rfl
  | _, _, .cons _ h => by rw [List.length_cons, List.length_cons, DpAll.length h]
theorem DpAll.get : ∀ {vs : List V} {ds : List PyData} {i : Nat} {v : V}, DpAll K F vs ds → vs[i]? = some v → ∃ d, ds[i]? = some d ∧ Dp K F v d
  | _, _, _, _, .nil, e => by simp at e
  | _, _, 0, _, .cons h _, e => by simp at e; subst e; exact ⟨_, rfl, h⟩
  | _, _, i + 1, _, .cons _ h, e => by
    obtain ⟨d, e1, e2⟩ := DpAll.get (i := i) h (by simpa using e)
    exact ⟨d, by simpa using e1, e2⟩
theorem DpAll.get' : ∀ {vs : List V} {ds : List PyData} {i : Nat} {d : PyData}, DpAll K F vs ds → ds[i]? = some d → ∃ v, vs[i]? = some v ∧ Dp K F v d
  | _, _, _, _, .nil, e => by simp at e
  | _, _, 0, _, .cons h _, e => by simp at e; subst e; exact ⟨_, rfl, h⟩
  | _, _, i + 1, _, .cons _ h, e => by
    obtain ⟨d, e1, e2⟩ := DpAll.get' (i := i) h (by simpa using e)
    exact ⟨d, by simpa using e1, e2⟩
theorem DpAll.append : ∀ {vs ws : List V} {ds es : List PyData}, DpAll K F vs ds → DpAll K F ws es → DpAll K F (vs ++ ws) (ds ++ es)
  | _, _, _, _, .nil, h => h
  | _, _, _, _, .cons h hs, k => .cons h (DpAll.append hs k)
theorem DpAll.snoc {vs : List V} {v : V} {ds : List PyData} {d : PyData} (h : DpAll K F vs ds) (k : Dp K F v d) : DpAll K F (vs ++ [v]) (ds ++ [d]) := h.append (.cons k .nil)
theorem DpAll.ints : ∀ ns : List Int, DpAll K F (ns.map V.int) (ns.map PyData.int)
  | [] => .nil
  | n :: r => .cons (.int n) (DpAll.ints r)
theorem DpAll.strs : ∀ ns : List Str, DpAll K F (ns.map V.str) (ns.map PyData.str)
  | [] => .nil
  | n :: r => .cons (.str n) (DpAll.strs r)
theorem dp_ints_of : ∀ {vs : List V} {ns : List Int}, DpAll K F vs (ns.map PyData.int) → vs = ns.map V.int
  | _, [], h => by cases h; rfl
  | _, n :: r, h => by
    cases h with
    | cons h1 h2 => cases h1; rw [dp_ints_of h2]; rfl
end
/-- tuples of ints, tuples of those -/
abbrev ti (ns : List Int) : PyData := .tuple (ns.map PyData.int)
abbrev li (ns : List Int) : PyData := .list (ns.map PyData.int)
abbrev tti (r : List (List Int)) : PyData := .tuple (r.map ti)
abbrev lti (r : List (List Int)) : PyData := .list (r.map ti)
section
variable {K : PySem.W.Frag} {F F' H : Hp} {v : V}
theorem Dp.tup_inv {ds : List PyData} (h : Dp K F v (.tuple ds)) : ∃ a xs, v = .ref a ∧ SqT K F a xs ∧ DpAll K F xs ds := by
  cases h with
  | tup h1 h2 => exact ⟨_, _, rfl, h1, h2⟩
theorem Dp.lst_inv {ds : List PyData} (h : Dp K F v (.list ds)) : ∃ a xs, v = .ref a ∧ SqL K F a xs ∧ DpAll K F xs ds := by
  cases h with
  | lst h1 h2 => exact ⟨_, _, rfl, h1, h2⟩
theorem Dp.ti_inv {ns : List Int} (h : Dp K F v (ti ns)) : ∃ a, v = .ref a ∧ SqT K F a (ns.map V.int) := by
  obtain ⟨a, xs, e, h1, h2⟩ := h.tup_inv
  rw [dp_ints_of h2] at h1
  exact ⟨a, e, h1⟩
theorem Dp.li_inv {ns : List Int} (h : Dp K F v (li ns)) : ∃ a, v = .ref a ∧ SqL K F a (ns.map V.int) := by
  obtain ⟨a, xs, e, h1, h2⟩ := h.lst_inv
  rw [dp_ints_of h2] at h1
  exact ⟨a, e, h1⟩
theorem Dp.of_ti {a : Addr} {ns : List Int} (h : SqT K F a (ns.map V.int)) : Dp K F (.ref a) (ti ns) := .tup h (DpAll.ints ns)
theorem Dp.of_li {a : Addr} {ns : List Int} (h : SqL K F a (ns.map V.int)) : Dp K F (.ref a) (li ns) := .lst h (DpAll.ints ns)
theorem Dp.int_inv {i : Int} (h : Dp K F v (.int i)) : v = .int i := by cases h; rfl
theorem Dp.str_inv {i : Str} (h : Dp K F v (.str i)) : v = .str i := by cases h; rfl
end

end L2
namespace CB
open PySem PySem.Spec PyProof.Rows L2
/-! ### data that may be compared -/
theorem canLay_strs : ∀ l : List Str, (∀ x ∈ l, PyData.strOk x = true) → PyData.canLayAll0 (l.map PyData.str) = true
  | [], _ => rfl
  | x :: r, h => by
    show (PyData.strOk x && PyData.canLayAll0 (r.map PyData.str)) = true
    rw [h x List.mem_cons_self, canLay_strs r fun y hy => h y (List.mem_cons_of_mem _ hy)]
    rfl
theorem canLay_ints : ∀ l : List Int, PyData.canLayAll0 (l.map PyData.int) = true
  | [] => rfl
  | x :: r => by
    show (true && PyData.canLayAll0 (r.map PyData.int)) = true
    rw [canLay_ints r]
    rfl
theorem depth_strs : ∀ l : List Str, PyData.depthAll (l.map PyData.str) = 0
  | [] => rfl
  | x :: r => by
    show max 0 (PyData.depthAll (r.map PyData.str)) = 0
    rw [depth_strs r]
    rfl
theorem shaped_strs (l : List Str) (h : ∀ x ∈ l, PyData.strOk x = true) : SeqAt.shaped (.list (l.map PyData.str)) = true := by
  unfold SeqAt.shaped
  rw [Bool.and_eq_true, decide_eq_true_eq]
  refine ⟨canLay_strs l h, ?_⟩
  show PyData.depthAll (l.map PyData.str) + 1 ≤ 64
  rw [depth_strs]
  decide
/-! ### the drawing of numbers -/
abbrev kSeed : Key := Sum.inr "seed"
abbrev kNumber : Key := Sum.inr "number"
abbrev kLeft : Key := Sum.inr "left"
def dealD (s n : Int) (l : Addr) : List (Key × V) := [(kSeed, .int s), (kNumber, .int n), (kLeft, .ref l)]
theorem deal_seed {s n : Int} {l : Addr} : valV (dealD s n l) kSeed = some (.int s) := by
  exact valV_pos rfl
structure Deal (H : Hp) (d l : Addr) (s n : Int) (ls : List Int) : Prop where
  hd : H d = some (.dK (dealD s n l))
  hl : H l = some (.lst (ls.map V.int))
  s0 : 0 ≤ s
  s1 : s < 2147483648
  n0 : 0 ≤ n
  pos : ∀ x ∈ ls, 0 < x
  len : ls.length ≤ 63
def IsDeal (H : Hp) (d l : Addr) : Prop := ∃ s n ls, Deal H d l s n ls
theorem Deal.ne {H : Hp} {d l : Addr} {s n : Int} {ls : List Int} (h : Deal H d l s n ls) : d ≠ l := ne_of h.hd h.hl (by intro z; cases z)
theorem IsDeal.keep {H H' : Hp} {d l : Addr} (h : IsDeal H d l) (k : ∀ o, H d = some o → H' d = some o) (k2 : ∀ o, H l = some o → H' l = some o) : IsDeal H' d l := by
  obtain ⟨s, n, ls, h⟩ := h
  exact ⟨s, n, ls, k _ h.hd, k2 _ h.hl, h.s0, h.s1, h.n0, h.pos, h.len⟩
theorem ne_sn : ¬ kSeed = kNumber := by decide +kernel
theorem ne_sl : ¬ kSeed = kLeft := by decide +kernel
theorem ne_nl : ¬ kNumber = kLeft := by decide +kernel
theorem deal_number {s n : Int} {l : Addr} : valV (dealD s n l) kNumber = some (.int n) := by
  unfold dealD
  rw [valV_neg ne_sn, valV_pos rfl]
theorem deal_left {s n : Int} {l : Addr} : valV (dealD s n l) kLeft = some (.ref l) := by
  unfold dealD
  rw [valV_neg ne_sl, valV_neg ne_nl, valV_pos rfl]
theorem put_number {s n m : Int} {l : Addr} : putK (dealD s n l) kNumber (.int m) = dealD s m l := by
  unfold putK dealD
  rw [if_pos (by rw [List.any_cons, List.any_cons, decide_eq_true rfl]; simp)]
  simp only [List.map_cons, List.map_nil, if_neg ne_sn, if_true, if_neg (fun h => ne_nl (Eq.symm h))]
theorem put_seed {s n m : Int} {l : Addr} : putK (dealD s n l) kSeed (.int m) = dealD m n l := by
  unfold putK dealD
  rw [if_pos (by rw [List.any_cons, decide_eq_true rfl]; simp)]
  simp only [List.map_cons, List.map_nil, if_true, if_neg (fun h => ne_sn (Eq.symm h)), if_neg (fun h => ne_sl (Eq.symm h))]
theorem merge_deal {s n : Int} {l : Addr} : mergeK [] (dealD s n l) = dealD s n l := by
  have a1 : ([] : List (Key × V)).any (fun kv => decide (kv.1 = kSeed)) = false := rfl
  have a2 : ([(kSeed, V.int s)] : List (Key × V)).any (fun kv => decide (kv.1 = kNumber)) = false := by simp only [List.any_cons, List.any_nil, decide_eq_false ne_sn, Bool.or_false]
  have a3 : ([(kSeed, V.int s), (kNumber, V.int n)] : List (Key × V)).any (fun kv => decide (kv.1 = kLeft)) = false := by simp only [List.any_cons, List.any_nil, decide_eq_false ne_sl, decide_eq_false ne_nl, Bool.or_false]
  have e1 : putK ([] : List (Key × V)) kSeed (.int s) = [(kSeed, .int s)] := by unfold putK; rw [a1]; rfl
  have e2 : putK [(kSeed, V.int s)] kNumber (.int n) = [(kSeed, .int s), (kNumber, .int n)] := by unfold putK; rw [a2]; rfl
  have e3 : putK [(kSeed, V.int s), (kNumber, V.int n)] kLeft (.ref l) = dealD s n l := by unfold putK; rw [a3]; rfl
  show putK (putK (putK [] kSeed (.int s)) kNumber (.int n)) kLeft (.ref l) = _
  rw [e1, e2, e3]
section
variable {H : Hp} {d l : Addr} {s n : Int} {ls : List Int}
theorem Deal.g_seed (h : Deal H d l s n ls) : DGet H d (.str "seed") (some (.int s)) := by
  have e := DGet.k (k := kSeed) h.hd
  rw [deal_seed] at e
  exact e
theorem Deal.g_number (h : Deal H d l s n ls) : DGet H d (.str "number") (some (.int n)) := by
  have e := DGet.k (k := kNumber) h.hd
  rw [deal_number] at e
  exact e
theorem Deal.g_left (h : Deal H d l s n ls) : DGet H d (.str "left") (some (.ref l)) := by
  have e := DGet.k (k := kLeft) h.hd
  rw [deal_left] at e
  exact e
theorem Deal.p_number (h : Deal H d l s n ls) (m : Int) : DPut H d (.str "number") (.int m) (upd H d (.dK (dealD s m l))) := by
  have e := DPut.k (k := kNumber) (v := .int m) h.hd (by show 3 < sizeLine; decide)
  rw [put_number] at e
  exact e
theorem Deal.p_seed (h : Deal H d l s n ls) (m : Int) : DPut H d (.str "seed") (.int m) (upd H d (.dK (dealD m n l))) := by
  have e := DPut.k (k := kSeed) (v := .int m) h.hd (by show 3 < sizeLine; decide)
  rw [put_seed] at e
  exact e
theorem Deal.pop (h : Deal H d l s n ls) (hn : ls ≠ []) : Deal (upd H l (.lst (ls.map V.int).dropLast)) d l s n ls.dropLast :=
  ⟨by rw [upd_ne h.ne]; exact h.hd, by rw [upd_same, List.map_dropLast], h.s0, h.s1, h.n0, fun x hx => h.pos x (List.dropLast_subset _ hx), by have := h.len; rw [List.length_dropLast]; omega⟩
theorem Deal.last (h : Deal H d l s n ls) (hn : ls ≠ []) : ∃ y, 0 < y ∧ (ls.map V.int)[(ls.map V.int).length - 1]? = some (.int y) := by
  refine ⟨ls.getLast hn, h.pos _ (List.getLast_mem hn), ?_⟩
  rw [List.length_map, List.getElem?_map, ← List.getLast?_eq_getElem?, List.getLast?_eq_some_getLast hn]
  rfl
theorem Deal.with_number (h : Deal H d l s n ls) {m : Int} (m0 : 0 ≤ m) : Deal (upd H d (.dK (dealD s m l))) d l s m ls :=
  ⟨upd_same, by rw [upd_ne h.ne.symm]; exact h.hl, h.s0, h.s1, m0, h.pos, h.len⟩
theorem Deal.with_seed (h : Deal H d l s n ls) {m : Int} (m0 : 0 ≤ m) (m1 : m < 2147483648) : Deal (upd H d (.dK (dealD m n l))) d l m n ls :=
  ⟨upd_same, by rw [upd_ne h.ne.symm]; exact h.hl, m0, m1, h.n0, h.pos, h.len⟩
end
theorem fmod_in (x k : Int) (hk : 0 < k) : 0 ≤ x.fmod k ∧ x.fmod k < k := by
  rw [Int.fmod_eq_emod_of_nonneg x (by omega)]
  exact ⟨Int.emod_nonneg _ (by omega), Int.emod_lt_of_pos _ hk⟩
theorem cut_ints (ns : List Int) (lo hi : Option Int) : ∃ ms : List Int, cutV (ns.map V.int) lo hi = ms.map V.int ∧ ms.length ≤ ns.length :=
  ⟨(ns.drop (HT.sIx ns.length 0 lo)).take (HT.sIx ns.length ns.length hi - HT.sIx ns.length 0 lo), by
    unfold cutV
    rw [List.length_map, ← List.map_drop, ← List.map_take], by
    rw [List.length_take, List.length_drop]
    omega⟩
/-- what stands beside the deal stays -/
def Kp (d l : Addr) (H H' : Hp) : Prop := ∀ b o, b ≠ d → b ≠ l → H b = some o → H' b = some o
section
variable {d l p : Addr} {H H1 H2 : Hp} {o : HO}
theorem Kp.refl : Kp d l H H := fun _ _ _ _ e => e
theorem Kp.trans (a : Kp d l H H1) (b : Kp d l H1 H2) : Kp d l H H2 := fun x o h1 h2 e => b x o h1 h2 (a x o h1 h2 e)
theorem Kp.of_ex (a : Ex H H1) : Kp d l H H1 := fun x o _ _ e => a x o e
theorem Kp.of_draw (a : ∀ b, b ≠ d → b ≠ l → H1 b = H b) : Kp d l H H1 := fun x o h1 h2 e => (a x h1 h2).trans e
theorem Kp.mut (a : Kp d l H H1) (h : H p = none) : Kp d l H (upd H1 p o) := fun x u h1 h2 e => by
  rw [upd_ne (ne_of_none e h)]
  exact a x u h1 h2 e
theorem IsDeal.ex (h : IsDeal H d l) (e : Ex H H1) : IsDeal H1 d l := h.keep (fun o => e d o) (fun o => e l o)
theorem IsDeal.upd (h : IsDeal H d l) (hd : p ≠ d) (hl : p ≠ l) : IsDeal (L2.upd H p o) d l := h.keep (fun o e => by rw [upd_ne hd.symm]; exact e) (fun o e => by rw [upd_ne hl.symm]; exact e)
theorem IsDeal.nd (h : IsDeal H d l) (e : H p = none) : p ≠ d ∧ p ≠ l := by
  obtain ⟨s, n, ls, h⟩ := h
  exact ⟨(ne_of_none h.hd e).symm, (ne_of_none h.hl e).symm⟩
/-- an object other than the deal's two -/
theorem IsDeal.ne_str (h : IsDeal H d l) {y : Str} {ys : List V} (e : H p = some (.lst (.str y :: ys))) : p ≠ d ∧ p ≠ l := by
  obtain ⟨s, n, ls, h⟩ := h
  refine ⟨fun z => ?_, fun z => ?_⟩
  · rw [z, h.hd] at e; cases e
  · rw [z, h.hl] at e
    cases ls with
    | nil => cases e
    | cons a r => cases e
end
theorem at_in {xs : List V} {r : Int} (h0 : 0 ≤ r) (h1 : r < xs.length) : ∃ v, atI xs r = some v ∧ v ∈ xs := by
  have h2 : r.toNat < xs.length := by omega
  have e : xs[r.toNat]? = some xs[r.toNat] := List.getElem?_eq_getElem h2
  have e2 := atI_nat e
  rw [Int.toNat_of_nonneg h0] at e2
  exact ⟨_, e2, List.getElem_mem h2⟩
theorem at_inA {xs : List Nat} {r : Int} (h0 : 0 ≤ r) (h1 : r < xs.length) : ∃ v, atI xs r = some v ∧ v ∈ xs := by
  have h2 : r.toNat < xs.length := by omega
  have e : xs[r.toNat]? = some xs[r.toNat] := List.getElem?_eq_getElem h2
  have e2 := atI_nat e
  rw [Int.toNat_of_nonneg h0] at e2
  exact ⟨_, e2, List.getElem_mem h2⟩
theorem cut_strs (ns : List Str) (lo hi : Option Int) : ∃ ms : List Str, cutV (ns.map V.str) lo hi = ms.map V.str ∧ ms.length ≤ ns.length ∧ ∀ y ∈ ms, y ∈ ns :=
  ⟨(ns.drop (HT.sIx ns.length 0 lo)).take (HT.sIx ns.length ns.length hi - HT.sIx ns.length 0 lo), by
    unfold cutV
    rw [List.length_map, ← List.map_drop, ← List.map_take], by
    rw [List.length_take, List.length_drop]
    omega, fun y h => List.mem_of_mem_drop (List.mem_of_mem_take h)⟩
/-- the promise of the deal that is made of the script -/
def sp_deal (K : PySem.W.Frag) : Sp := fun vs H Q _ => ∃ (a : Addr) (ns : List Int) (b : Int), vs = [.ref a, .int b] ∧ SqL K H a (ns.map V.int) ∧ ns.length ≤ 63 ∧ 0 ≤ b ∧ b ≤ 63 ∧
  ∀ (d l : Addr) (H' : Hp), Ex H H' → H d = none → H l = none → IsDeal H' d l → Q (.ref d) H'
/-- the promise of a draw: some number below many -/
def sp_draw : Sp := fun vs H Q _ => ∃ (d l : Addr) (m : Int), vs = [.ref d, .int m] ∧ IsDeal H d l ∧ 0 < m ∧ m < 1073741824 ∧
  ∀ (r : Int) (H' : Hp), 0 ≤ r → r < m → IsDeal H' d l → Kp d l H H' → Q (.int r) H'
end CB

set_option Elab.async false
set_option linter.all false
set_option maxRecDepth 100000
set_option maxHeartbeats 2000000
namespace CB
open PySem PySem.Spec PyProof.Rows L2

/-! ### defs that are promised where no repr is under way (A.guards = some []) -/
structure FnG (P : Program) (w : World) (K : PySem.W.Frag) (mg : Str → Option Value) (base : Heap) (k : Nat) (f : Addr) (fd : FuncData) (ps : List Str) (sp : Sp) : Prop where
  len : ∀ vs H Q E, sp vs H Q E → vs.length = ps.length
  run : ∀ (A : Around) (outer : List Env) (s : Shared) (H : Hp) (args : Args) (us : List Value) (vs : List V) (Q : VK) (E : XK), A.guards = some [] → Room k A → Env0 P w K mg base A outer s H →
    BindsTo s fd args (ps.zip us) → Vals vs us → sp vs H Q E → codeAny (model P w) A (.call (.ref f) args) (CR CX0 outer P w H s Q E) s
section
variable {P : Program} {w : World} {K : PySem.W.Frag} {mg : Str → Option Value} {base : Heap}
theorem okG {x qual : Str} {st : Stmt} {f : Addr} {fd : FuncData} {N ps : List Str} {k : Nat} {sp : Sp} (F : Fun K x qual st f fd) (S : FnScope N ps (defScope st)) (len : ∀ vs H Q E, sp vs H Q E → vs.length = ps.length)
    (hbody : ∀ (cdv : Value) (A : Around) (outer : List Env) (s : Shared) (H : Hp) (vs : List V) (Q : VK) (E : XK), (A.deeper (envOfC qual (defScope st) s.heap.objs.size f cdv)).guards = some [] → Room k (A.deeper (envOfC qual (defScope st) s.heap.objs.size f cdv)) → sp vs H Q E →
      ∃ t, PSs (cxOf CX0 P w K mg base N qual (defScope st) f cdv A outer s H E).nox (defBody st) t ∧ t { nx := fun _ H' => Q .non H', rt := Q } (start N vs) H) : FnG P w K mg base (k + 1) f fd ps sp := by
  obtain ⟨oc, od, kV, doc, pm, an, cdv, ct, osl, rfl, lk, hcd⟩ := F.ex
  refine ⟨len, fun A outer s H args us vs Q E hg hr e0 hb r hsp => ?_⟩
  have keepBase : ∀ b o, base.get? b = some o → s.heap.get? b = some o := fun b o e => (e0.bs b o e).1
  have hkinds : ∀ y ∈ ps.zip us, (defScope st).names.lookup y.1 = some .local ∨ ((defScope st).names.lookup y.1 = some .cell ∧ ((cellsFrom (s.heap.objs.size + 1) (defScope st).names []).lookup y.1).isSome = true) := by
    rintro ⟨n, v⟩ hy
    exact (S.par n (List.of_mem_zip hy).1).elim .inl fun q => .inr ⟨q, PySem.W.cellsFrom_some _ _ _ (.inl q)⟩
  have KX := e0.mod.kin.keeps keepBase
  refine codeAny_call_function hr.depth (KX _ _ lk) rfl S.co S.gen rfl (PySem.W.codeRec_of KX hcd) (hb _ _ _ _ (wpAny_newFunctionEnv_cells S.kind hkinds ?_))
  rintro env rfl s1 x
  obtain ⟨t, ht, hq⟩ := hbody cdv A outer s H vs Q E hg (hr.deeper _) hsp
  have I0 := inv_start (CX := CX0) (E := E) S hr.hd e0 (len _ _ _ _ hsp) r x
  refine ⟨(e0.mod.nolimit.keeps keepBase).keeps x.toInCall.keep, codeAny_func (wpAny_mono (ht.nox.run [] s1 (start N vs) H _ I0 hq) (fun fl s' hs => ?_) fun e s' hs => hs)⟩
  cases fl with
  | ret u =>
    obtain ⟨v, σ', H', J, rv, q⟩ := hs
    exact ⟨v, H', J.os, J.bare, J.base, J.hok, rv, q⟩
  | next =>
    obtain ⟨σ', H', J, q⟩ := hs
    exact ⟨V.non, H', J.os, J.bare, J.base, J.hok, rfl, q⟩
  | brk => exact hs.elim fun _ h => h.elim fun _ h => (show False from h.2).elim
  | cont => exact hs.elim fun _ h => h.elim fun _ h => (show False from h.2).elim
end
section
variable {X : Cx} {k : Nat} {f : Addr} {fd : FuncData} {ps : List Str} {sp : Sp} {x : Str} {p pos : Pos} {e : Expr} {es : List Expr} {t : TA} {E : XK}
theorem pe_callG (F : FnG X.prog X.w X.K X.mg X.base k f fd ps sp) (hgd : X.A.guards = some []) (hr : Room k X.A) (hg : Gl X x) (hm : X.mg x = some (.ref f)) (hk : PySem.W.keepIn X.K (.ref f) = true) (hb : Binds X.K fd ps [])
    (ha : PA X (e :: es) t) (hdb : (x == ("__debug__" : Str)) = false := by decide) (he : starEach (e :: es) X.env = (false, eval e X.env) :: starEach es X.env := by rfl) (hpl : (backTo pos (starEach es X.env)).any (·.1) = false := by rfl) :
    PE X (.Call (.Name x p) (e :: es) [] pos) (tCall sp [] E t) := by
  refine ⟨fun pins s σ H Q I h => wpAny_Call_Name_kw (ld_glob I hg hm (PySem.W.callWith_K (h₀ := X.base) I.ok.mod.kin hk (thn (ha.run pos pins s σ H _ I h) fun us s1 hus => ?_) he hpl) hdb)⟩
  obtain ⟨vs, H1, I1, r, q⟩ := hus
  refine ⟨I1.kIn, ?_⟩
  have r2 : Vals (vs ++ []) us := by rw [List.append_nil]; exact r
  have hl : (us ++ []).length = ps.length := by rw [List.append_nil, ← r2.length]; exact F.len _ _ _ _ q
  have bnd := hb s1 us I1.kIn hl
  rw [List.append_nil] at bnd
  refine wpAny_call (codeAny_mono (F.run X.A X.stack s1 H1 ⟨us, []⟩ us (vs ++ []) Q E hgd hr I1.env0 bnd r2 q) fun r s' hq => ?_)
  cases r with
  | error e => exact False.elim hq
  | ok fl =>
    cases fl with
    | ret u => exact I1.after hq
    | next => exact False.elim hq
    | brk => exact False.elim hq
    | cont => exact False.elim hq
end
/-! ### the law's own call, where no repr is under way -/
theorem lawG {P : Program} {w : World} {K : PySem.W.Frag} {mg mb : Str → Option Value} {k : Nat} {fa a : Addr} {fd : FuncData} {x : Str} {sp : Sp} {s1 : Shared} {vs : List Value} {ns : List Int}
    (KX : K.In s1.heap) (hns : s1.heap.Ns mainGlobals mg) (hb : s1.heap.Ns builtinsNs mb) (hbb : ∀ x : Str, x ≠ "__name__" → mb x = bootBuiltins x) (hlim : s1.heap.NoLimit) (hg : s1.gens = #[])
    (ha : s1.heap.get? a = some { cls := .type "list", data := .seq vs.toArray }) (hi : IntsAre vs ns) (hl : ns.length ≤ sizeLine) (hr : Room k callerA)
    (F : ∀ base : Heap, K.In base → base.Ns mainGlobals mg → FnG P w K mg base k fa fd [x] sp) (hbind : ∀ (s : Shared) (u : Value), BindsTo s fd ⟨[u], []⟩ [(x, u)])
    (hsp : ∀ H : Hp, SqL K H a (ns.map V.int) → sp [.ref a] H (fun v _ => v = .bl true) fun _ _ _ => False) :
    codeAny (model P w) callerA (.call (.ref fa) ⟨[.ref a], []⟩) (fun r s' => r = .ok (.ret (.bool true)) ∧ OldK s1.heap s'.heap ∧ s'.os = s1.os ∧ AllBare s'.gens) s1 := by
  have rel := vals_ints hi
  -- H tracks nothing, or the script alone, locked
  suffices go : ∀ H : Hp, (∀ b u, H b = some u → b = a ∧ K.lookup a = none ∧ ∃ o xs, u = .frz o (.lst xs)) → SqL K H a (ns.map V.int) → HOk P w H s1.heap →
      codeAny (model P w) callerA (.call (.ref fa) ⟨[.ref a], []⟩) (fun r s' => r = .ok (.ret (.bool true)) ∧ OldK s1.heap s'.heap ∧ s'.os = s1.os ∧ AllBare s'.gens) s1 by
    cases hk : K.lookup a with
    | none =>
      refine go (upd (fun _ => none) a (.frz { cls := .type "list", data := .seq vs.toArray } (.lst (ns.map V.int)))) (fun b u e => ?_) (.inl (.inr ⟨_, upd_same⟩)) (fun b u e => ?_)
      · by_cases h : b = a
        · subst h
          rw [upd_same] at e
          cases e
          exact ⟨rfl, hk, _, _, rfl⟩
        · rw [upd_ne h] at e
          cases e
      · by_cases h : b = a
        · subst h
          rw [upd_same] at e
          cases e
          exact ⟨ha, by rw [List.length_map]; exact hl, vs, _, rel, ha⟩
        · rw [upd_ne h] at e
          cases e
    | some o =>
      have e := KX a o hk
      rw [ha] at e
      cases e
      exact go (fun _ => none) (fun b u e => by cases e) (.inr ⟨_, vs.toArray, _, hk, rfl, rfl, rfl, by rw [List.size_toArray, hi.length]; exact hl, by simpa using rel⟩) (fun b u e => by cases e)
  intro H hH hS hok
  have apart : ∀ {b : Addr} {o : Obj}, s1.heap.get? b = some o → (∃ es ep, o.data = .dict es ep) → H b = none := fun {b o} e hd => by
    cases q : H b with
    | none => rfl
    | some u =>
      obtain ⟨rfl, _⟩ := hH b u q
      rw [ha] at e
      cases e
      obtain ⟨es, ep, z⟩ := hd
      cases z
  have ns_base : ∀ {b : Addr} {m : Str → Option Value}, s1.heap.Ns b m → (hidT s1.heap H).Ns b m := fun {b m} h => by
    obtain ⟨o, es, ep, e, d, r⟩ := h
    exact ⟨o, es, ep, hidT_get e (apart e ⟨es, ep, d⟩), d, r⟩
  have kin : K.In (hidT s1.heap H) := fun b o e => hidT_get (KX b o e) (by
    cases q : H b with
    | none => rfl
    | some u =>
      obtain ⟨rfl, h2, _⟩ := hH b u q
      rw [h2] at e
      cases e)
  have limit : (hidT s1.heap H).NoLimit := by
    obtain ⟨mc, h1, h2⟩ := hlim
    exact ⟨mc, ns_base h1, h2⟩
  have e0 : Env0 P w K mg (hidT s1.heap H) callerA [] s1 H :=
    ⟨rfl, ⟨kin, ns_base hns, ⟨mb, ns_base hb, hbb⟩, limit⟩, fun b o e => of_hidT e, Nat.le_of_eq (hidT_size _ _), trivial, fun b hb => (List.not_mem_nil hb).elim, hok, .of_eq hg⟩
  refine codeAny_mono ((F _ kin (ns_base hns)).run callerA [] s1 H ⟨[.ref a], []⟩ [.ref a] [.ref a] _ _ rfl hr e0 (hbind s1 (.ref a)) (.cons rfl .nil) (hsp H hS)) fun r s' h => ?_
  cases r with
  | error e => exact False.elim h
  | ok fl =>
    cases fl with
    | ret u =>
      obtain ⟨v, H', os, bare, un, hok', ru, rfl⟩ := h
      obtain rfl : u = Value.bool true := ru
      refine ⟨rfl, OldK.of_keep fun b o e => ?_, os, bare⟩
      cases q : H b with
      | none => exact un.keep b o e q (fun z => (List.not_mem_nil z).elim) (by simp)
      | some u =>
        obtain ⟨rfl, _, ob, xs, rfl⟩ := hH b u q
        have h1 := (hok b _ q).1
        rw [e] at h1
        cases h1
        exact (hok' b _ (un.frzs b _ _ q)).1
    | next => exact False.elim h
    | brk => exact False.elim h
    | cont => exact False.elim h
/-- the goal that k_head leaves, from the law's promise -/
theorem walkG {l : PySem.W.OpenLaw} {n k : Nat} {q : Program} {loose : List Str} {XP : (Str → Option Value) → Heap → Prop} {YP : World → Heap → Prop} {d : DefRec} {K : Params → PySem.W.Frag} {sp : World → Sp} {x : Str}
    (hn : l.most = some n) (hn2 : n ≤ sizeLine) (hdf : d.params.defaults = []) (hr : Room k callerA) (hY : ∀ (w : World) (h : Heap), YP w h → (K w.params).In h)
    (F : ∀ (w : World) (mg : Str → Option Value) (fa : Addr) (h : Heap), (K w.params).In h → h.Ns mainGlobals mg → mg d.name = some (.ref fa) →
      ∃ fd : FuncData, (∀ (s : Shared) (u : Value), BindsTo s fd ⟨[u], []⟩ [(x, u)]) ∧ ∀ base : Heap, (K w.params).In base → base.Ns mainGlobals mg → FnG l.prog w (K w.params) mg base k fa fd [x] (sp w))
    (hsp : ∀ (w : World) (H : Hp) (a : Addr) (ns : List Int), ns.length ≤ n → SqL (K w.params) H a (ns.map V.int) → sp w [.ref a] H (fun v _ => v = .bl true) fun _ _ _ => False) :
    PySem.W.WalkO q loose XP YP l.row.toRowW d [] (fun f vs => PySem.call f vs) :=
  Att.attach_call hn hdf fun w s0 s1 mg mb fa o pm cd doc a vs ns G Y ho hd hcd hmg hobj hints hlen hg => by
    have KX := hY w _ Y
    obtain ⟨fd, hb, hF⟩ := F w mg fa _ KX G.T.g hmg
    exact lawG KX G.T.g G.T.b G.T.builtins G.T.nolimit hg hobj hints (Nat.le_trans hlen hn2) hr hF hb fun H hS => hsp w H a ns hlen hS
/-! ### repr -/
section
variable {X : Cx}
/-- repr(x), x a list or a tuple: what is shown -/
theorem call_reprD {K : PySem.W.Frag} (hgd : X.A.guards = some []) (hu : X.A.units + 66 < cLine) (hK : X.K = K := by rfl) : CallR X (.builtin "repr") (fun xs H Q => ∃ v d, xs = [v] ∧ Dp K H v d ∧ (∃ a, v = .ref a) ∧ SeqAt.shaped d = true ∧ d.showable = true ∧ d.shown.length ≤ sizeLine ∧ Q (.str d.shown) H) := by
  subst hK
  intro pins s σ H xs us Q I r h
  obtain ⟨v, d, rfl, hd, ⟨a, rfl⟩, sd, sw, hz, q⟩ := h
  obtain ⟨u, rfl, ru⟩ := vals1 r
  obtain rfl : u = Value.ref a := ru
  obtain ⟨as, rd⟩ := Dp.reads I d _ _ hd rfl
  have dp := SeqAt.depth_of_shaped sd
  refine repr_of_reads' rd sw (PyData.noDict_hsm (PyData.hasDict_of_canLay d (SeqAt.canLay_of_shaped sd))) hgd (by omega) (fun _ _ e => e) (fun h' u tk hk => ?_) hz
  exact ⟨.str d.shown, H, I.kept (t' := tk) hk, ⟨u, rfl⟩, q⟩
/-! ### sum(a tuple of ints) -/
theorem cr_sumT {K : PySem.W.Frag} (hc : X.calm = true) (hK : X.K = K := by rfl) : CallR X (.builtin "sum") (fun vs H Q => ∃ (a : Addr) (ns : List Int), vs = [V.ref a] ∧ SqT K H a (ns.map V.int) ∧ Q (.int ns.sum) H) := by
  subst hK
  intro pins s σ H vs us Q I r h
  obtain ⟨a, ns, rfl, hs, q⟩ := h
  obtain ⟨its, rv, hl, _⟩ := I.tuple hs
  rw [Vals.ref1 r]
  have hi := rv.ints
  obtain ⟨xs, e⟩ := hi.allInts.items
  have hn : numsOf (intItems xs).toList = ns := by rw [← e]; exact hi.numsOf
  rw [nums_intItems] at hn
  rw [e] at hl
  have hT : s.heap.IsTuple a (intItems xs) := hl
  have hlt : a < s.heap.objs.size := by obtain ⟨_, e, _⟩ := hT; exact Heap.lt_size e
  refine call_sum_walkG (wpAny_pyIter_tuple hT ⟨_, [_, a], [_], _, _, _, numAt xs, rfl, Walks.tuple (A := X.A.in1) (I.ok.hd hc) _ a (Nat.ne_of_lt hlt) (intItems xs), ⟨⟨_, Heap.get?_push_size _ rfl, rfl, rfl⟩, hT.push _⟩, fun b hb => ?_, (fun _ _ => intItems_at), fun h' tk t' hk => ?_⟩)
  · show b < (s.heap.push _).objs.size
    rw [Heap.size_push]
    rcases List.mem_cons.mp hb with rfl | hb
    · exact Nat.lt_succ_self _
    · rw [List.mem_singleton.mp hb]
      exact Nat.lt_succ_of_lt hlt
  · have e2 : preSum (numAt xs) (intItems xs).size = ns.sum := by
      have e3 : (intItems xs).size = xs.size := by simp [intItems]
      rw [e3, preSum_eq, List.take_of_length_le (by simp), hn]
    rw [e2]
    refine ⟨.int _, H, I.kept (t' := tk) fun b o eb => hk b o (fun hm => ?_) (Heap.get?_push_of_some _ eb), ⟨_, rfl⟩, q⟩
    rw [List.mem_singleton.mp hm] at eb
    exact absurd (Heap.lt_size eb) (Nat.lt_irrefl _)
/-! ### sorted(a list of data) -/
abbrev dSort (ds : List PyData) : List PyData := ds.mergeSort (PySem.W.dataLe false id)
theorem DpAll.pairs {K : PySem.W.Frag} {H : Hp} : ∀ {xs : List V} {ds : List PyData}, DpAll K H xs ds → ∀ p ∈ xs.zip ds, Dp K H p.1 p.2
  | _, _, .nil, p, hp => by cases hp
  | _, _, .cons h hs, p, hp => by
    rcases List.mem_cons.mp hp with rfl | hp
    · exact h
    · exact DpAll.pairs hs p hp
theorem dpAll_of {K : PySem.W.Frag} {H : Hp} : ∀ (l : List (V × PyData)), (∀ p ∈ l, Dp K H p.1 p.2) → DpAll K H (l.map Prod.fst) (l.map Prod.snd)
  | [], _ => .nil
  | p :: r, h => .cons (h p List.mem_cons_self) (dpAll_of r fun q hq => h q (List.mem_cons_of_mem _ hq))
theorem each_zip {H : Hp} {pins : List (Addr × Obj)} {σ : L2.St} {s : Shared} (I : Inv X pins σ H s) : ∀ {xs : List V} {us : List Value} {ds : List PyData}, Vals xs us → DpAll X.K H xs ds →
    PySem.W.EachIs (fun (u : Value) (p : V × PyData) => RelV p.1 u) us (xs.zip ds) ∧ PySem.W.EachIs (fun (u : Value) (p : V × PyData) => ∃ as, Reads s.heap u p.2 as) us (xs.zip ds)
  | _, _, _, .nil, .nil => ⟨.nil, .nil⟩
  | _, _, _, .cons r rs, .cons h hs => ⟨.cons r (each_zip I rs hs).1, .cons (Dp.reads I _ _ _ h r) (each_zip I rs hs).2⟩
theorem vals_each : ∀ {us : List Value} {l : List (V × PyData)}, PySem.W.EachIs (fun (u : Value) (p : V × PyData) => RelV p.1 u) us l → Vals (l.map Prod.fst) us
  | _, _, .nil => .nil
  | _, _, .cons r rs => .cons r (vals_each rs)
theorem zip_snd {xs : List V} {ds : List PyData} (h : xs.length = ds.length) : (xs.zip ds).map Prod.snd = ds := List.map_snd_zip (by omega)
theorem cr_sortD {K : PySem.W.Frag} (hu : X.A.units + 64 < cLine) (hK : X.K = K := by rfl) : CallR X (.builtin "sorted") (fun vs H Q => ∃ (a : Addr) (xs : List V) (ds : List PyData), vs = [V.ref a] ∧ SqL K H a xs ∧ DpAll K H xs ds ∧ PySem.W.AllAlike ds ∧ PySem.W.Sortable ds ∧ (∀ d ∈ ds, d.depth ≤ 60) ∧
    ∀ ys p, H p = none → (∀ F, DpAll K F xs ds → DpAll K F ys (dSort ds)) → (∀ y ∈ ys, y ∈ xs) → Q (.ref p) (upd H p (.lst ys))) := by
  subst hK
  intro pins s σ H vs us Q I r h
  obtain ⟨a, xs, ds, rfl, hs, hd, hal, hsr, hdp, q⟩ := h
  obtain ⟨its, rv, hl, hz⟩ := I.list hs
  rw [Vals.ref1 r]
  have hlen := DpAll.length hd
  obtain ⟨e1, e2⟩ := each_zip I rv hd
  have esnd := zip_snd hlen
  refine PySem.W.sorted_data (enc := Prod.snd) hl.isList e1 e2 (by rw [esnd]; exact hal) (by rw [esnd]; exact hsr) (by rw [List.length_zip]; omega) (fun p hp => ?_) fun out hout he => ?_
  · have := hdp p.2 (by rw [← esnd]; exact List.mem_map_of_mem hp)
    omega
  · obtain ⟨e, hat⟩ := sortedAll_at s.heap its out.toArray
    have hmem : ∀ p ∈ (xs.zip ds).mergeSort (PySem.W.dataLe false Prod.snd), p ∈ xs.zip ds := fun p hp => (List.mergeSort_perm _ _).mem_iff.mp hp
    have hys : ∀ F, DpAll X.K F xs ds → DpAll X.K F (((xs.zip ds).mergeSort (PySem.W.dataLe false Prod.snd)).map Prod.fst) (dSort ds) := fun F hF => by
      have h1 := dpAll_of (K := X.K) (H := F) ((xs.zip ds).mergeSort (PySem.W.dataLe false Prod.snd)) fun p hp => DpAll.pairs hF p (hmem p hp)
      have h2 : ((xs.zip ds).mergeSort (PySem.W.dataLe false Prod.snd)).map Prod.snd = dSort ds := by
        rw [PySem.W.sort_maps (r := PySem.W.dataLe false Prod.snd) (s := PySem.W.dataLe false id) Prod.snd (fun _ _ _ _ => rfl), esnd]
      rw [h2] at h1
      exact h1
    have hv := vals_each he
    refine ⟨.ref (s.heap.objs.size + 1), upd H (s.heap.objs.size + 1) (.lst _), I.laid (t' := s.toks) (fun b u eb => sortedAll_old eb) (by omega) (show ObjOk X.prog X.w _ _ _ (.lst _) from ⟨?_, out, e, hv, ?_⟩), rfl, q _ _ (I.hok.fresh (by omega)) hys fun y hy => ?_⟩
    · rw [List.length_map, List.length_mergeSort, List.length_zip]
      omega
    · exact hat
    · obtain ⟨p, hp, rfl⟩ := List.mem_map.mp hy
      exact (List.of_mem_zip (hmem p hp)).1
end
end CB

set_option Elab.async false
set_option linter.all false
set_option maxRecDepth 100000
set_option maxHeartbeats 2000000
namespace CB
open PySem PySem.Spec PyProof.Rows L2

/-! ### rows as data: they may be compared and shown -/
abbrev Sml (x : Int) : Prop := x.natAbs.log2 < 1920
theorem sml_of {x : Int} {k : Nat} (h : x.natAbs < 2 ^ k) (hk : 0 < k) (h2 : k ≤ 1920) : Sml x := Nat.lt_of_lt_of_le (PySem.Flt.log2_lt_of hk h) h2
theorem canLay_tis : ∀ r : List (List Int), PyData.canLayAll0 (r.map ti) = true
  | [] => rfl
  | p :: r => by
    show (PyData.canLayAll0 (p.map PyData.int) && PyData.canLayAll0 (r.map ti)) = true
    rw [canLay_ints, canLay_tis r]
    rfl
theorem depth_ints' (p : List Int) : PyData.depthAll (p.map PyData.int) = 0 := PySem.W.depth_ints p
theorem depth_tis : ∀ r : List (List Int), PyData.depthAll (r.map ti) ≤ 1
  | [] => Nat.zero_le _
  | p :: r => by
    show max (PyData.depthAll (p.map PyData.int) + 1) (PyData.depthAll (r.map ti)) ≤ 1
    rw [depth_ints']
    have := depth_tis r
    omega
theorem ti_shaped (p : List Int) : SeqAt.shaped (ti p) = true := by
  unfold SeqAt.shaped
  rw [Bool.and_eq_true, decide_eq_true_eq]
  refine ⟨canLay_ints p, ?_⟩
  show PyData.depthAll (p.map PyData.int) + 1 ≤ 64
  rw [depth_ints']
  decide
theorem li_shaped (p : List Int) : SeqAt.shaped (li p) = true := by
  unfold SeqAt.shaped
  rw [Bool.and_eq_true, decide_eq_true_eq]
  refine ⟨canLay_ints p, ?_⟩
  show PyData.depthAll (p.map PyData.int) + 1 ≤ 64
  rw [depth_ints']
  decide
theorem lti_shaped (r : List (List Int)) : SeqAt.shaped (lti r) = true := by
  unfold SeqAt.shaped
  rw [Bool.and_eq_true, decide_eq_true_eq]
  refine ⟨canLay_tis r, ?_⟩
  show PyData.depthAll (r.map ti) + 1 ≤ 64
  have := depth_tis r
  omega
theorem tti_shaped (r : List (List Int)) : SeqAt.shaped (tti r) = true := by
  unfold SeqAt.shaped
  rw [Bool.and_eq_true, decide_eq_true_eq]
  refine ⟨canLay_tis r, ?_⟩
  show PyData.depthAll (r.map ti) + 1 ≤ 64
  have := depth_tis r
  omega
theorem ints_showable (p : List Int) (h : ∀ x ∈ p, Sml x) : PyData.showableAll (p.map PyData.int) = true := PyData.showableAll_ints p h
theorem ti_showable {p : List Int} (h : ∀ x ∈ p, Sml x) : (ti p).showable = true := ints_showable p h
theorem li_showable {p : List Int} (h : ∀ x ∈ p, Sml x) : (li p).showable = true := ints_showable p h
theorem tis_showable (r : List (List Int)) (h : ∀ p ∈ r, ∀ x ∈ p, Sml x) : PyData.showableAll (r.map ti) = true := showableAll_of fun d hd => by
  obtain ⟨p, hp, rfl⟩ := List.mem_map.mp hd
  exact ti_showable (h p hp)
theorem lti_showable {r : List (List Int)} (h : ∀ p ∈ r, ∀ x ∈ p, Sml x) : (lti r).showable = true := tis_showable r h
theorem tti_showable {r : List (List Int)} (h : ∀ p ∈ r, ∀ x ∈ p, Sml x) : (tti r).showable = true := tis_showable r h
theorem int_shown {x : Int} (h : Sml x) : (PyData.shown (.int x)).length ≤ 1921 := PyProof.Rows.int_text_len_1921 h
theorem ints_shown : ∀ (p : List Int), (∀ x ∈ p, Sml x) → ((PyData.shownAll (p.map PyData.int)).map (·.length)).sum ≤ 1921 * p.length
  | [], _ => Nat.zero_le _
  | x :: p, h => by
    have h1 := int_shown (h x List.mem_cons_self)
    have h2 := ints_shown p fun y hy => h y (List.mem_cons_of_mem _ hy)
    show (PyData.shown (.int x)).length + ((PyData.shownAll (p.map PyData.int)).map (·.length)).sum ≤ 1921 * (p.length + 1)
    omega
theorem ti_shown {p : List Int} (h : ∀ x ∈ p, Sml x) : (ti p).shown.length ≤ 1923 * p.length + 3 := by
  have h1 := tupleText_len_le (PyData.shownAll (p.map PyData.int))
  have h2 := ints_shown p h
  have h3 : (PyData.shownAll (p.map PyData.int)).length = p.length := by rw [PyData.shownAll_length, List.length_map]
  show (tupleText (PyData.shownAll (p.map PyData.int))).length ≤ _
  omega
theorem li_shown {p : List Int} (h : ∀ x ∈ p, Sml x) : (li p).shown.length ≤ 1923 * p.length + 3 := by
  have h1 := listText_len_le (PyData.shownAll (p.map PyData.int))
  have h2 := ints_shown p h
  have h3 : (PyData.shownAll (p.map PyData.int)).length = p.length := by rw [PyData.shownAll_length, List.length_map]
  show (listText (PyData.shownAll (p.map PyData.int))).length ≤ _
  omega
theorem tis_shown {m : Nat} : ∀ (r : List (List Int)), (∀ p ∈ r, p.length ≤ m ∧ ∀ x ∈ p, Sml x) → ((PyData.shownAll (r.map ti)).map (·.length)).sum ≤ (1923 * m + 3) * r.length
  | [], _ => Nat.zero_le _
  | p :: r, h => by
    obtain ⟨l1, l2⟩ := h p List.mem_cons_self
    have h1 := ti_shown l2
    have h2 := tis_shown r fun y hy => h y (List.mem_cons_of_mem _ hy)
    have h3 : 1923 * p.length ≤ 1923 * m := Nat.mul_le_mul_left _ l1
    show (ti p).shown.length + ((PyData.shownAll (r.map ti)).map (·.length)).sum ≤ (1923 * m + 3) * (r.length + 1)
    rw [Nat.mul_succ]
    omega
theorem lti_shown {m : Nat} {r : List (List Int)} (h : ∀ p ∈ r, p.length ≤ m ∧ ∀ x ∈ p, Sml x) : (lti r).shown.length ≤ (1923 * m + 5) * r.length + 3 := by
  have h1 := listText_len_le (PyData.shownAll (r.map ti))
  have h2 := tis_shown r h
  have h3 : (PyData.shownAll (r.map ti)).length = r.length := by rw [PyData.shownAll_length, List.length_map]
  have h4 : (1923 * m + 5) * r.length = (1923 * m + 3) * r.length + 2 * r.length := by rw [← Nat.add_mul]
  show (listText (PyData.shownAll (r.map ti))).length ≤ _
  omega
theorem tti_shown {m : Nat} {r : List (List Int)} (h : ∀ p ∈ r, p.length ≤ m ∧ ∀ x ∈ p, Sml x) : (tti r).shown.length ≤ (1923 * m + 5) * r.length + 3 := by
  have h1 := tupleText_len_le (PyData.shownAll (r.map ti))
  have h2 := tis_shown r h
  have h3 : (PyData.shownAll (r.map ti)).length = r.length := by rw [PyData.shownAll_length, List.length_map]
  have h4 : (1923 * m + 5) * r.length = (1923 * m + 3) * r.length + 2 * r.length := by rw [← Nat.add_mul]
  show (tupleText (PyData.shownAll (r.map ti))).length ≤ _
  omega
/-! ### products -/
/-- a product with one box more, to a degree -/
def ext (d : Int) (p : List Int) : List (List Int) := (List.range (d - p.sum + 1).toNat).map fun (o : Nat) => p ++ [(o : Int)]
def raw (d : Int) : Nat → List (List Int)
  | 0 => [[]]
  | n + 1 => (raw d n).flatMap (ext d)
/-- a product beside its degree -/
def encP (p : List Int) : PyData := .tuple [.int p.sum, ti p]
def prods (n : Nat) (d : Int) : List (List Int) := (raw d n).mergeSort (PySem.W.dataLe false encP)
theorem ext_mem {d : Int} {p q : List Int} (h : q ∈ ext d p) : ∃ o : Nat, q = p ++ [(o : Int)] ∧ (o : Int) ≤ d - p.sum := by
  obtain ⟨o, ho, rfl⟩ := List.mem_map.mp h
  rw [List.mem_range] at ho
  exact ⟨o, rfl, by omega⟩
theorem sum_snoc (p : List Int) (o : Int) : (p ++ [o]).sum = p.sum + o := by
  rw [List.sum_append]
  simp
theorem raw_ok {d : Int} (hd : 0 ≤ d) : ∀ (n : Nat) (p : List Int), p ∈ raw d n → p.length = n ∧ 0 ≤ p.sum ∧ p.sum ≤ d ∧ ∀ x ∈ p, 0 ≤ x
  | 0, p, h => by
    rw [List.mem_singleton.mp (show p ∈ [[]] from h)]
    exact ⟨rfl, by decide, hd, fun x hx => by cases hx⟩
  | n + 1, p, h => by
    obtain ⟨q, hq, hp⟩ := List.mem_flatMap.mp h
    obtain ⟨h1, h2, h3, h4⟩ := raw_ok hd n q hq
    obtain ⟨o, rfl, ho⟩ := ext_mem hp
    refine ⟨by rw [List.length_append, h1]; rfl, by rw [sum_snoc]; omega, by rw [sum_snoc]; omega, fun x hx => ?_⟩
    rcases List.mem_append.mp hx with hx | hx
    · exact h4 x hx
    · rw [List.mem_singleton.mp hx]; omega
theorem ext_len {d : Int} {p : List Int} (h0 : 0 ≤ p.sum) (hd : d ≤ 6) : (ext d p).length ≤ 7 := by
  unfold ext
  rw [List.length_map, List.length_range]
  omega
theorem flat_len {d : Int} : ∀ (l : List (List Int)), (∀ p ∈ l, 0 ≤ p.sum) → d ≤ 6 → (l.flatMap (ext d)).length ≤ 7 * l.length
  | [], _, _ => by simp
  | p :: r, h, hd => by
    rw [List.flatMap_cons, List.length_append, List.length_cons]
    have h1 := ext_len (h p List.mem_cons_self) hd
    have h2 := flat_len r (fun q hq => h q (List.mem_cons_of_mem _ hq)) hd
    omega
theorem raw_len {d : Int} (hd : 0 ≤ d) (hd6 : d ≤ 6) : ∀ n : Nat, (raw d n).length ≤ 7 ^ n
  | 0 => Nat.le_refl 1
  | n + 1 => by
    have h1 := flat_len (raw d n) (fun p hp => (raw_ok hd n p hp).2.1) hd6
    have h2 := raw_len hd hd6 n
    show ((raw d n).flatMap (ext d)).length ≤ 7 ^ n * 7
    omega
theorem raw_len6 {d : Int} (hd : 0 ≤ d) (hd6 : d ≤ 6) {n : Nat} (hn : n ≤ 6) : (raw d n).length ≤ 117649 :=
  Nat.le_trans (raw_len hd hd6 n) (Nat.le_trans (Nat.pow_le_pow_right (by decide) hn) (by decide))
theorem prods_len (n : Nat) (d : Int) : (prods n d).length = (raw d n).length := List.length_mergeSort _
theorem prods_mem {n : Nat} {d : Int} {p : List Int} : p ∈ prods n d ↔ p ∈ raw d n := (List.mergeSort_perm _ _).mem_iff
theorem prods_ok {d : Int} (hd : 0 ≤ d) {n : Nat} {p : List Int} (h : p ∈ prods n d) : p.length = n ∧ 0 ≤ p.sum ∧ p.sum ≤ d ∧ ∀ x ∈ p, 0 ≤ x := raw_ok hd n p (prods_mem.mp h)
theorem sort_enc (l : List (List Int)) : dSort (l.map encP) = (l.mergeSort (PySem.W.dataLe false encP)).map encP :=
  (PySem.W.sort_maps (r := PySem.W.dataLe false encP) (s := PySem.W.dataLe false id) encP (fun _ _ _ _ => rfl)).symm
theorem alike_ints' (xs ys : List Int) : PySem.W.alikeAll (xs.map PyData.int) (ys.map PyData.int) = true := PySem.W.alike_ints xs ys
theorem enc_alike (l : List (List Int)) : PySem.W.AllAlike (l.map encP) := PySem.W.AllAlike.of fun p q => by
  show (true && (PySem.W.alikeAll (p.map PyData.int) (q.map PyData.int) && true)) = true
  rw [alike_ints']
  rfl
theorem enc_sortable (l : List (List Int)) : PySem.W.Sortable (l.map encP) := PySem.W.Sortable.tuples fun p => ⟨_, _, rfl⟩
theorem enc_depth (l : List (List Int)) : ∀ d ∈ l.map encP, d.depth ≤ 60 := fun d hd => by
  obtain ⟨p, _, rfl⟩ := List.mem_map.mp hd
  show max 0 (max (PyData.depthAll (p.map PyData.int) + 1) 0) + 1 ≤ 60
  rw [PySem.W.depth_ints]
  decide
/-- how many products there are, as it is reckoned -/
def hm (d : Int) : Nat → Int
  | 0 => 1
  | k + 1 => (hm d k * (d + (1 + (k : Int)))).fdiv (1 + (k : Int))
def sp_how_many : Sp := fun vs H Q _ => ∃ (n : Nat) (d : Int), vs = [.int (n : Int), .int d] ∧ n ≤ 6 ∧ 0 ≤ d ∧ d ≤ 6 ∧ Q (.int (hm d n)) H
/-- the promise: a new list of tuples -/
def sp_products (K : PySem.W.Frag) : Sp := fun vs H Q _ => ∃ (n : Nat) (d : Int) (F : Hp), vs = [.int (n : Int), .int d] ∧ Ex F H ∧ n ≤ 6 ∧ 0 ≤ d ∧ d ≤ 6 ∧
  ∀ p xs F' H', H p = none → Gr NoS F H F' H' → F' p = none → H' p = some (.lst xs) → DpAll K F' xs ((prods n d).map ti) → Q (.ref p) H'
end CB

set_option Elab.async false
set_option linter.all false
set_option maxRecDepth 100000
set_option maxHeartbeats 2000000
namespace CB
open PySem PySem.Spec PyProof.Rows L2
/-- what a def of data hands back: a value that reads as d, the frozen part grown -/
def RetD (K : PySem.W.Frag) (F H : Hp) (Q : VK) (d : PyData) : Prop := ∀ v F' H', Gr NoS F H F' H' → Dp K F' v d → Q v H'
/-- tuple(a list of ours) -/
theorem RetD.tuple {K : PySem.W.Frag} {F H F1 H1 : Hp} {Q : VK} {xs : List V} {ds : List PyData} {l : Addr} (q : RetD K F H Q (.tuple ds)) (g : Gr NoS F H F1 H1) (hl : H1 l = some (.lst xs)) (hd : DpAll K F1 xs ds) :
    (∃ p ys, [V.ref l] = [.ref p] ∧ ((SqL K H1 p ys ∧ ∀ l, H1 l = none → Q (.ref l) (upd H1 l (.tup ys))) ∨ (SqT K H1 p ys ∧ Q (.ref p) H1))) :=
  ⟨l, xs, rfl, .inl ⟨SqL.of hl, fun t nt => q _ _ _ (g.new nt) (.tup (SqT.of upd_same) (hd.ex (Evl.Ex.new (sub_none g.sub nt))))⟩⟩
theorem sum_nonneg : ∀ {p : List Int}, (∀ x ∈ p, 0 ≤ x) → 0 ≤ p.sum
  | [], _ => by decide
  | y :: r, h => by
    rw [List.sum_cons]
    have h1 := h y List.mem_cons_self
    have h2 := sum_nonneg (p := r) fun z hz => h z (List.mem_cons_of_mem _ hz)
    omega
theorem le_sum : ∀ {p : List Int} {x : Int}, (∀ x ∈ p, 0 ≤ x) → x ∈ p → x ≤ p.sum
  | [], _, _, hx => by cases hx
  | y :: r, x, h, hx => by
    rw [List.sum_cons]
    have h1 := h y List.mem_cons_self
    have h2 := sum_nonneg (p := r) fun z hz => h z (List.mem_cons_of_mem _ hz)
    rcases List.mem_cons.mp hx with rfl | hx
    · omega
    · have := le_sum (p := r) (fun z hz => h z (List.mem_cons_of_mem _ hz)) hx
      omega
/-! ### boxes multiplied -/
/-- the boxes (first) taken as often (second) -/
def wL (l : List (Int × Int)) : Int := l.foldl (fun w q => w * q.1 ^ q.2.toNat) 1
theorem wL_snoc (l : List (Int × Int)) (q : Int × Int) : wL (l ++ [q]) = wL l * q.1 ^ q.2.toNat := by
  unfold wL
  rw [List.foldl_append]
  rfl
def rowL (n : Nat) (d : Int) (boxes : List Int) : List Int := (prods n d).map fun p => wL (boxes.zip p)
theorem zip_get {α β : Type} {xs : List α} {ys : List β} {i : Nat} {x : α} {y : β} (hx : xs[i]? = some x) (hy : ys[i]? = some y) : (xs.zip ys)[i]? = some (x, y) := by
  rw [List.getElem?_zip_eq_some]
  exact ⟨hx, hy⟩
theorem take_zip_snoc {α β : Type} {xs : List α} {ys : List β} {i : Nat} {x : α} {y : β} (hx : xs[i]? = some x) (hy : ys[i]? = some y) : (xs.zip ys).take (i + 1) = (xs.zip ys).take i ++ [(x, y)] := by
  rw [List.take_add_one, zip_get hx hy]
  rfl
theorem int_get {ns : List Int} {i : Nat} {v : V} (h : (ns.map V.int)[i]? = some v) : ∃ x, ns[i]? = some x ∧ v = .int x := by
  rw [List.getElem?_map] at h
  obtain ⟨x, e, rfl⟩ := Option.map_eq_some_iff.mp h
  exact ⟨x, e, rfl⟩
/-- the promise of boxes_row -/
def sp_boxes_row (K : PySem.W.Frag) : Sp := fun vs H Q _ => ∃ (n : Nat) (d : Int) (bs : List Int) (v : V) (F : Hp), vs = [.int (n : Int), .int d, v] ∧ Ex F H ∧ Dp K F v (ti bs) ∧ bs.length = n ∧ n ≤ 6 ∧ 0 ≤ d ∧ d ≤ 6 ∧ (∀ x ∈ bs, -1000000 ≤ x ∧ x ≤ 1000000) ∧ RetD K F H Q (ti (rowL n d bs))
/-- the promise of a def that tells a row of all numbers -/
def sp_map_row (K : PySem.W.Frag) : Sp := fun vs H Q _ => ∃ (v : V) (r : List (List Int)) (F : Hp), vs = [v] ∧ Ex F H ∧ Dp K F v (tti r) ∧ r.flatten.length ≤ 10000 ∧ RetD K F H Q (ti r.flatten)
def sp_row_map (K : PySem.W.Frag) : Sp := fun vs H Q _ => ∃ (v : V) (r : List (List Int)) (m : Nat) (F : Hp), vs = [.int (r.length : Int), v] ∧ Ex F H ∧ Dp K F v (ti r.flatten) ∧ 0 < r.length ∧ r.length ≤ 1000 ∧ m ≤ 1000 ∧ (∀ p ∈ r, p.length = m) ∧ RetD K F H Q (tti r)
theorem flat_len_eq {r : List (List Int)} {m : Nat} (h : ∀ p ∈ r, p.length = m) : r.flatten.length = r.length * m := by
  induction r with
  | nil => simp
  | cons p r ih =>
    rw [List.flatten_cons, List.length_append, h p List.mem_cons_self, ih fun q hq => h q (List.mem_cons_of_mem _ hq), List.length_cons, Nat.succ_mul]
    omega
theorem flat_cut {m : Nat} : ∀ {r : List (List Int)} {k : Nat} {p : List Int}, (∀ p ∈ r, p.length = m) → r[k]? = some p → (r.flatten.drop (k * m)).take m = p
  | [], _, _, _, h => by simp at h
  | q :: r, 0, p, h, e => by
    have e' : q = p := by simpa using e
    subst e'
    rw [Nat.zero_mul, List.drop_zero, List.flatten_cons, List.take_append_of_le_length (by rw [h q List.mem_cons_self]; exact Nat.le_refl _)]
    exact List.take_of_length_le (by rw [h q List.mem_cons_self]; exact Nat.le_refl _)
  | q :: r, k + 1, p, h, e => by
    have ih := flat_cut (r := r) (k := k) (fun q hq => h q (List.mem_cons_of_mem _ hq)) (by simpa using e)
    rw [List.flatten_cons, Nat.succ_mul, Nat.add_comm (k * m) m, ← List.drop_drop]
    have e2 : (q ++ r.flatten).drop m = r.flatten := by
      rw [← h q List.mem_cons_self]
      exact List.drop_left
    rw [e2]
    exact ih
theorem cut_nat (xs : List V) {a b : Nat} (h : b ≤ xs.length) : cutV xs (some (a : Int)) (some (b : Int)) = (xs.drop (min a xs.length)).take (b - min a xs.length) := by
  unfold cutV
  rw [HT.sIx_nat, HT.sIx_nat, Nat.min_eq_left h]
/-! ### the deal beside a frozen part -/
structure Wr (d l : Addr) (F H : Hp) : Prop where
  sub : Ex F H
  nd : F d = none
  nl : F l = none
  deal : IsDeal H d l
section
variable {d l p : Addr} {F H F' H' : Hp} {o : HO}
theorem Wr.draw (h : Wr d l F H) (D : IsDeal H' d l) (k : Kp d l H H') : Wr d l F H' := ⟨fun b o e => k b o (ne_of_none e h.nd) (ne_of_none e h.nl) (h.sub b o e), h.nd, h.nl, D⟩
theorem Wr.gr (h : Wr d l F H) (g : Gr NoS F H F' H') : Wr d l F' H' := by
  obtain ⟨s, n, ls, D⟩ := h.deal
  exact ⟨g.sub, g.nf d h.nd (by rw [D.hd]; exact fun z => by cases z), g.nf l h.nl (by rw [D.hl]; exact fun z => by cases z), h.deal.ex g.ex⟩
theorem Wr.new (h : Wr d l F H) (hp : H p = none) : Wr d l (upd F p o) (upd H p o) := h.gr ((Gr.refl h.sub).new hp)
theorem Wr.newm (h : Wr d l F H) (hp : H p = none) : Wr d l F (upd H p o) := h.gr ((Gr.refl h.sub).newm hp)
theorem Wr.mut (h : Wr d l F H) (hf : F p = none) (n1 : p ≠ d) (n2 : p ≠ l) : Wr d l F (upd H p o) :=
  ⟨fun b u e => by rw [upd_ne (ne_of_none e hf)]; exact h.sub b u e, h.nd, h.nl, h.deal.upd n1 n2⟩
theorem Wr.ne (h : Wr d l F H) (hp : H p = none) : p ≠ d ∧ p ≠ l := h.deal.nd hp
theorem Kp.none (k : Kp d l H H') (n1 : p ≠ d) (n2 : p ≠ l) (e : H' p = none) : H p = none := by
  cases q : H p with
  | none => rfl
  | some o => rw [k p o n1 n2 q] at e; cases e
theorem Gr.toKp (g : Gr NoS F H F' H') : Kp d l H H' := Kp.of_ex g.ex
theorem Gr.of_ex (h : Ex F H) (x : Ex H H') : Gr NoS F H F H' := ⟨fun _ _ e => e, h.trans x, fun a o _ e => x a o e, fun a e => by
  cases q : H a with
  | none => exact absurd q e
  | some o => rw [x a o q]; exact fun z => (by cases z), fun _ e _ => e⟩
end
theorem rep_zero (ns : List Int) (k : Nat) : ns.map V.int ++ (List.replicate k [V.int 0]).flatten = (ns ++ List.replicate k 0).map V.int := by
  rw [List.map_append, List.map_replicate]
  congr 1
  induction k with
  | zero => rfl
  | succ k ih => rw [List.replicate_succ, List.flatten_cons, ih]; rfl
theorem eqv_refl (d : PyData) (h : SeqAt.shaped d = true) : PyData.eqv d d = true := SeqAt.eqv_refl d (SeqAt.canLay_of_shaped h)
end CB

set_option Elab.async false
set_option linter.all false
set_option maxRecDepth 100000
set_option maxHeartbeats 2000000
namespace CB
open PySem PySem.Spec PyProof.Rows L2
section
variable {X : Cx} {K : PySem.W.Frag}
theorem pg_lstK {es : List Expr} {k n : Nat} {t : TGs} {pos : Pos} (hc : X.calm = true) (h : PGs X es t)
    (hn : (assignEach es X.env).length = n := by rfl) (hst : (assignEach es X.env).findIdx? (·.1) = none := by rfl) (hK : X.K = K := by rfl) : PG X (.Tuple es k pos) (gLst K n t) := hK ▸ pg_lst hc h hn hst
end
/-! ### sums -/
def S (n : Nat) (f : Nat → Int) : Int := ((List.range n).map f).sum
section
variable {n m k : Nat} {f g : Nat → Int}
theorem S_zero : S 0 f = 0 := rfl
theorem S_succ : S (n + 1) f = S n f + f n := by
  unfold S
  rw [List.range_succ, List.map_append, List.sum_append]
  simp
theorem S_congr : ∀ {n : Nat}, (∀ i, i < n → f i = g i) → S n f = S n g
  | 0, _ => rfl
  | n + 1, h => by rw [S_succ, S_succ, S_congr fun i hi => h i (by omega), h n (by omega)]
theorem S_add : ∀ {n : Nat}, S n (fun i => f i + g i) = S n f + S n g
  | 0 => rfl
  | n + 1 => by rw [S_succ, S_succ, S_succ, S_add]; omega
theorem S_mul (c : Int) : ∀ {n : Nat}, S n (fun i => c * f i) = c * S n f
  | 0 => by rw [S_zero, S_zero, Int.mul_zero]
  | n + 1 => by rw [S_succ, S_succ, S_mul c, Int.mul_add]
theorem S_mulr (c : Int) : ∀ {n : Nat}, S n (fun i => f i * c) = S n f * c
  | 0 => by rw [S_zero, S_zero, Int.zero_mul]
  | n + 1 => by rw [S_succ, S_succ, S_mulr c, Int.add_mul]
theorem S_null (h : ∀ i, i < n → f i = 0) : S n f = 0 := by
  rw [S_congr (g := fun _ => 0) h]
  clear h
  induction n with
  | zero => rfl
  | succ n ih => rw [S_succ, ih]; rfl
theorem S_swap {F : Nat → Nat → Int} : ∀ {n : Nat}, S n (fun i => S m (F i)) = S m (fun j => S n (fun i => F i j))
  | 0 => by
    rw [S_zero]
    exact (S_null fun _ _ => rfl).symm
  | n + 1 => by
    rw [S_succ, S_swap, ← S_add]
    exact S_congr fun j _ => S_succ.symm
theorem S_one : ∀ {n : Nat}, k < n → (∀ i, i < n → i ≠ k → f i = 0) → S n f = f k
  | 0, h, _ => by omega
  | n + 1, h, hz => by
    rw [S_succ]
    by_cases e : k = n
    · subst e
      rw [S_null fun i hi => hz i (by omega) (by omega)]
      omega
    · rw [S_one (n := n) (by omega) fun i hi => hz i (by omega), hz n (by omega) (fun h => e h.symm)]
      omega
theorem S_abs {B : Nat} : ∀ {n : Nat}, (∀ i, i < n → (f i).natAbs ≤ B) → (S n f).natAbs ≤ n * B
  | 0, _ => by simp [S_zero]
  | n + 1, h => by
    rw [S_succ, Nat.succ_mul]
    have h1 := S_abs (n := n) fun i hi => h i (by omega)
    have h2 := h n (by omega)
    omega
end
/-! ### maps of rows -/
def at2 (M : List (List Int)) (i j : Nat) : Int := (M.getD i []).getD j 0
def pbI (w : Nat) (M : List (List Int)) (p : List Int) (i : Nat) : List Int := (List.range w).map fun j => S i fun t => p.getD t 0 * at2 M t j
def pb (w : Nat) (M : List (List Int)) (p : List Int) : List Int := pbI w M p M.length
def sg (many k : Nat) : List Int := (List.range many).map fun j => if j = k then (1 : Int) else 0
def sm (many : Nat) : List (List Int) := (List.range many).map (sg many)
section
variable {w i j : Nat} {M : List (List Int)} {p : List Int} {x : Int} {row : List Int}
theorem pbI_len : (pbI w M p i).length = w := by unfold pbI; rw [List.length_map, List.length_range]
theorem pb_len : (pb w M p).length = w := pbI_len
theorem pbI_get (hj : j < w) : (pbI w M p i)[j]? = some (S i fun t => p.getD t 0 * at2 M t j) := by
  unfold pbI
  rw [List.getElem?_map, List.getElem?_range hj]
  rfl
theorem getD_of {α : Type} {l : List α} {a d : α} (h : l[i]? = some a) : l.getD i d = a := by rw [List.getD_eq_getElem?_getD, h]; rfl
theorem pbI_next {h t : Int} (ep : p[i]? = some x) (eM : M[i]? = some row) (hw : row.length = w) (eh : (pbI w M p i)[j]? = some h) (et : row[j]? = some t) : (pbI w M p (i + 1))[j]? = some (h + x * t) := by
  have hj : j < w := by
    have := (List.getElem?_eq_some_iff.mp et).1
    omega
  rw [pbI_get hj] at eh ⊢
  cases eh
  rw [S_succ, getD_of ep]
  unfold at2
  rw [getD_of eM, getD_of et]
theorem pbI_zero (ep : p[i]? = some 0) : pbI w M p (i + 1) = pbI w M p i := by
  unfold pbI
  refine List.map_congr_left fun j _ => ?_
  rw [S_succ, getD_of ep, Int.zero_mul, Int.add_zero]
theorem pbI_nil : pbI w M p 0 = List.replicate w 0 := by
  unfold pbI
  show (List.range w).map (fun _ => (0 : Int)) = _
  rw [List.map_const', List.length_range]
theorem sg_len {many k : Nat} : (sg many k).length = many := by unfold sg; rw [List.length_map, List.length_range]
theorem sm_len {many : Nat} : (sm many).length = many := by unfold sm; rw [List.length_map, List.length_range]
theorem sg_get {many k : Nat} (hj : j < many) : (sg many k).getD j 0 = if j = k then 1 else 0 := by
  apply getD_of
  unfold sg
  rw [List.getElem?_map, List.getElem?_range hj]
  rfl
theorem sm_row {many : Nat} (hj : j < many) : (sm many).getD j [] = sg many j := by
  apply getD_of
  unfold sm
  rw [List.getElem?_map, List.getElem?_range hj]
  rfl
theorem at2_sm {many : Nat} (hi : i < many) (hj : j < many) : at2 (sm many) i j = if j = i then 1 else 0 := by
  unfold at2
  rw [sm_row hi, sg_get hj]
/-- the same map changes nothing -/
theorem pb_same (h : p.length = w) : pb w (sm w) p = p := by
  apply List.ext_getElem?
  intro j
  by_cases hj : j < w
  · have ep : p[j]? = some (p.getD j 0) := by
      rw [List.getD_eq_getElem?_getD, List.getElem?_eq_getElem (by omega)]
      rfl
    unfold pb
    rw [pbI_get hj, sm_len, ep, S_one (k := j) hj]
    · rw [at2_sm hj hj, if_pos rfl, Int.mul_one]
    · intro i hi ne
      rw [at2_sm hi hj, if_neg (fun e => ne e.symm), Int.mul_zero]
  · rw [List.getElem?_eq_none (by rw [pb_len]; omega), List.getElem?_eq_none (by omega)]
theorem pb_sg (hw : ∀ r ∈ M, r.length = w) {k : Nat} (eM : M[k]? = some row) : pb w M (sg M.length k) = row := by
  have hk : k < M.length := (List.getElem?_eq_some_iff.mp eM).1
  have hr : row.length = w := hw row (List.mem_of_getElem? eM)
  apply List.ext_getElem?
  intro j
  by_cases hj : j < w
  · have ep : row[j]? = some (row.getD j 0) := by
      rw [List.getD_eq_getElem?_getD, List.getElem?_eq_getElem (by omega)]
      rfl
    unfold pb
    rw [pbI_get hj, ep, S_one (k := k) hk]
    · rw [sg_get hk, if_pos rfl, Int.one_mul]
      unfold at2
      rw [getD_of eM]
    · intro i hi ne
      rw [sg_get hi, if_neg ne, Int.zero_mul]
  · rw [List.getElem?_eq_none (by rw [pb_len]; omega), List.getElem?_eq_none (by omega)]
theorem pb_sm (hw : ∀ r ∈ M, r.length = w) : (sm M.length).map (pb w M) = M := by
  apply List.ext_getElem?
  intro k
  by_cases hk : k < M.length
  · have eM : M[k]? = some M[k] := List.getElem?_eq_getElem hk
    unfold sm
    rw [List.getElem?_map, List.getElem?_map, List.getElem?_range hk, eM]
    show some (pb w M (sg M.length k)) = _
    rw [pb_sg hw eM]
  · rw [List.getElem?_eq_none (by rw [List.length_map, sm_len]; omega), List.getElem?_eq_none (by omega)]
/-- one map behind another -/
theorem pb_both {O : List (List Int)} : pb w (O.map (pb w M)) p = pb w M (pb M.length O p) := by
  show pbI w (O.map (pb w M)) p (O.map (pb w M)).length = pbI w M (pb M.length O p) M.length
  rw [List.length_map]
  show (List.range w).map _ = (List.range w).map _
  refine List.map_congr_left fun j hj => ?_
  rw [List.mem_range] at hj
  have e1 : ∀ i, i < O.length → at2 (O.map (pb w M)) i j = S M.length fun t => at2 O i t * at2 M t j := fun i hi => by
    unfold at2
    have eO : O[i]? = some (O.getD i []) := by rw [List.getD_eq_getElem?_getD, List.getElem?_eq_getElem hi]; rfl
    rw [getD_of (l := O.map (pb w M)) (a := pb w M (O.getD i [])) (by rw [List.getElem?_map, eO]; rfl)]
    unfold pb
    rw [getD_of (pbI_get hj)]
    rfl
  rw [S_congr (g := fun i => S M.length fun t => p.getD i 0 * (at2 O i t * at2 M t j)) fun i hi => by rw [e1 i hi, S_mul], S_swap]
  refine S_congr fun t ht => ?_
  rw [getD_of (l := pb M.length O p) (pbI_get ht), ← S_mulr]
  exact S_congr fun i _ => by rw [Int.mul_assoc]
theorem pb_small {B C : Nat} (hp : ∀ x ∈ p, x.natAbs ≤ B) (hM : ∀ r ∈ M, ∀ x ∈ r, x.natAbs ≤ C) : ∀ x ∈ pb w M p, x.natAbs ≤ M.length * (B * C) := fun x hx => by
  obtain ⟨j, _, rfl⟩ := List.mem_map.mp hx
  refine S_abs fun i hi => ?_
  rw [Int.natAbs_mul]
  refine Nat.mul_le_mul ?_ ?_
  · rw [List.getD_eq_getElem?_getD]
    cases e : p[i]? with
    | none => exact Nat.zero_le _
    | some y => exact hp y (List.mem_of_getElem? e)
  · unfold at2
    rw [List.getD_eq_getElem?_getD]
    cases e : (M.getD i [])[j]? with
    | none => exact Nat.zero_le _
    | some y =>
      rw [List.getD_eq_getElem?_getD, List.getElem?_eq_getElem hi] at e
      exact hM _ (List.getElem_mem hi) y (List.mem_of_getElem? e)
end
/-- the promises -/
def sp_single (K : PySem.W.Frag) : Sp := fun vs H Q _ => ∃ (m k : Nat) (F : Hp), vs = [.int (m : Int), .int (k : Int)] ∧ Ex F H ∧ m ≤ 1000 ∧ RetD K F H Q (ti (sg m k))
def sp_same_map (K : PySem.W.Frag) : Sp := fun vs H Q _ => ∃ (n m : Nat) (d : Int) (F : Hp), vs = [.int (n : Int), .int d] ∧ Ex F H ∧ n ≤ 6 ∧ 0 ≤ d ∧ d ≤ 6 ∧ hm d n = (m : Int) ∧ m ≤ 1000 ∧ RetD K F H Q (tti (sm m))
abbrev Wid (w : Nat) (M : List (List Int)) : Prop := ∀ r ∈ M, r.length = w
abbrev Few (p : List Int) : Prop := ∀ x ∈ p, -(2 ^ 64) < x ∧ x < 2 ^ 64
def sp_put_back (K : PySem.W.Frag) : Sp := fun vs H Q _ => ∃ (v1 v2 : V) (M : List (List Int)) (p : List Int) (w : Nat) (F : Hp), vs = [v1, v2] ∧ Ex F H ∧ Dp K F v1 (tti M) ∧ Dp K F v2 (ti p) ∧ M ≠ [] ∧ Wid w M ∧ w ≤ 1000 ∧ M.length ≤ 1000 ∧ p.length = M.length ∧ Few p ∧ RetD K F H Q (ti (pb w M p))
def sp_behind (K : PySem.W.Frag) : Sp := fun vs H Q _ => ∃ (v1 v2 : V) (M O : List (List Int)) (w : Nat) (F : Hp), vs = [v1, v2] ∧ Ex F H ∧ Dp K F v1 (tti M) ∧ Dp K F v2 (tti O) ∧ M ≠ [] ∧ Wid w M ∧ w ≤ 1000 ∧ M.length ≤ 1000 ∧ O.length ≤ 1000 ∧ Wid M.length O ∧ (∀ p ∈ O, Few p) ∧ RetD K F H Q (tti (O.map (pb w M)))
/-- _law_put_back: the width is told -/
def sp_put_backL (K : PySem.W.Frag) : Sp := fun vs H Q _ => ∃ (v1 v2 : V) (M : List (List Int)) (p : List Int) (w : Nat) (F : Hp), vs = [v1, v2, .int (w : Int)] ∧ Ex F H ∧ Dp K F v1 (tti M) ∧ Dp K F v2 (ti p) ∧ Wid w M ∧ w ≤ 1000 ∧ M.length ≤ 1000 ∧ p.length = M.length ∧ Few p ∧ RetD K F H Q (ti (pb w M p))
/-! ### data alike -/
def Al : Nat → PyData → Prop
  | 0, d => ∃ i, d = .int i
  | n + 1, d => ∃ ds, d = .tuple ds ∧ ds.length ≤ 1000 ∧ ∀ x ∈ ds, Al n x
def spA (K : PySem.W.Frag) : Nat → Sp
  | 0 => fun _ _ _ _ => False
  | n + 1 => fun vs H Q _ => ∃ (v1 v2 : V) (d : PyData) (F : Hp), vs = [v1, v2] ∧ Ex F H ∧ Dp K F v1 d ∧ Dp K F v2 d ∧ Al n d ∧ ∀ H', Ex H H' → Q (.bl true) H'
theorem al_ti {p : List Int} (h : p.length ≤ 1000) : Al 1 (ti p) := ⟨_, rfl, by rw [List.length_map]; exact h, fun x hx => by
  obtain ⟨i, _, rfl⟩ := List.mem_map.mp hx
  exact ⟨i, rfl⟩⟩
theorem al_tti {M : List (List Int)} (h : M.length ≤ 1000) (h2 : ∀ p ∈ M, p.length ≤ 1000) : Al 2 (tti M) := ⟨_, rfl, by rw [List.length_map]; exact h, fun x hx => by
  obtain ⟨p, hp, rfl⟩ := List.mem_map.mp hx
  exact al_ti (h2 p hp)⟩
end CB

set_option Elab.async false
set_option linter.all false
set_option maxRecDepth 100000
set_option maxHeartbeats 2000000
/-! max(a list of numbers, default=d) -/
namespace CB
open PySem PySem.Spec PyProof.Rows L2
def IsMx (num : Nat → Int) (j : Nat) (b : Int) : Prop := (∃ i, i < j ∧ num i = b) ∧ ∀ i, i < j → num i ≤ b
def Best (num : Nat → Int) (j : Nat) (old : Array Value) : Prop := (old = #[] ∧ j = 0) ∨ ∃ b t, old = #[.int b t, .int b t] ∧ IsMx num j b
def OutD (num : Nat → Int) (n : Nat) (d v : Value) : Prop := (n = 0 ∧ v = d) ∨ ∃ b t, v = .int b t ∧ IsMx num n b
section
variable {prog : Program} {w : World} {A : Around} {R : Result → Shared → Prop} {I : Addr} {fp wr : List Addr} {n : Nat} {P : Nat → Value → Prop} {St : Nat → Heap → Prop}
theorem IsMx.up {num : Nat → Int} {j : Nat} {b : Int} (h : IsMx num j b) (hg : num j > b) : IsMx num (j + 1) (num j) := ⟨⟨j, by omega, rfl⟩, fun i hi => by
  by_cases e : i = j
  · rw [e]; omega
  · have := h.2 i (by omega); omega⟩
theorem IsMx.stay {num : Nat → Int} {j : Nat} {b : Int} (h : IsMx num j b) (hg : ¬ num j > b) : IsMx num (j + 1) b := ⟨by obtain ⟨i, hi, e⟩ := h.1; exact ⟨i, by omega, e⟩, fun i hi => by
  by_cases e : i = j
  · rw [e]; omega
  · exact h.2 i (by omega)⟩
theorem max_loopD (W : Walks prog w A.in1 I fp wr n P St) {num : Nat → Int} (hnum : ∀ i v, P i v → ∃ t, v = .int (num i) t) (d : Value) {B : Addr} (hB : B ∉ fp) :
    ∀ (k j : Nat) (s : Shared) (old : Array Value) (c : Nat), n - j = k → j ≤ n → St j s.heap → Best num j old → s.heap.get? B = some { cls := .type "list", dict := none, data := .seq old c, slots := #[] } →
    (∀ v h' tk, OutD num n d v → (∀ b o, b ∉ wr → b ≠ B → s.heap.get? b = some o → h'.get? b = some o) → R (.ok (.ret v)) { s with heap := h', toks := tk }) →
    codeAny (model prog w) A (.builtin "max.loop" ⟨[.ref I, .none, .ref B], [("default", d)]⟩) R s := by
  have hBw : B ∉ wr := fun h => hB (W.sub _ h)
  have hname : (toString "max" ++ toString ".loop" : String) = "max.loop" := by decide
  intro k
  induction k with
  | zero =>
    intro j s old c hk hj hst hbest hS hR
    have hin : j = n := by omega
    subst hin
    refine codeAny_builtin F.entry_max_loop ?_
    rw [Around.under_plainId F.plain_max_loop _]
    show wpAny _ A.in1 (seqItems? (.ref B) >>= _) _ _ s
    refine wpAny_bind (wpAny_seqItems hS rfl ?_)
    show wpAny _ A.in1 (tryCatch (pyNext (.ref I)) _ >>= _) _ _ s
    refine wpAny_bind (wpAny_tryCatch (W.done s _ _ hst fun h' tk hk' => ?_))
    have hS' := hk' B _ hBw hS
    rcases hbest with ⟨rfl, h0⟩ | ⟨b, t, rfl, hm⟩
    · exact wpAny_bind (wpAny_rule (wpAny_pure (hR d h' tk (.inl ⟨h0, rfl⟩) fun b o hbw _ e => hk' b o hbw e)))
    · show wpAny _ A.in1 (updateSeq B (fun _ => #[]) >>= _) _ _ _
      refine wpAny_bind (wpAny_updateSeq hS' rfl (wpAny_bind (wpAny_letGo (wpAny_pure ?_))))
      exact hR _ _ tk (.inr ⟨b, t, rfl, hm⟩) fun x o hbw hbS e => (Heap.get?_update_other _ _ (Ne.symm hbS)).trans (hk' x o hbw e)
  | succ k ih =>
    intro j s old c hk hj hst hbest hS hR
    have hlt : j < n := by omega
    refine codeAny_builtin F.entry_max_loop ?_
    rw [Around.under_plainId F.plain_max_loop _]
    show wpAny _ A.in1 (seqItems? (.ref B) >>= _) _ _ s
    refine wpAny_bind (wpAny_seqItems hS rfl ?_)
    show wpAny _ A.in1 (tryCatch (pyNext (.ref I)) _ >>= _) _ _ s
    refine wpAny_bind (wpAny_tryCatch (W.item j s _ _ hlt hst fun v h' tk hP hst' hk' => ?_))
    have hS' := hk' B _ hBw hS
    obtain ⟨u, rfl⟩ := hnum j v hP
    -- the rest, once the best stands
    have go : ∀ (h2 : Heap) (tk2 : Nat) (old2 : Array Value) (c2 : Nat), St (j + 1) h2 → Best num (j + 1) old2 → h2.get? B = some { cls := .type "list", dict := none, data := .seq old2 c2, slots := #[] } → (∀ b o, b ∉ wr → b ≠ B → s.heap.get? b = some o → h2.get? b = some o) →
        codeAny (model prog w) A (.builtin "max.loop" ⟨[.ref I, .none, .ref B], [("default", d)]⟩) R { s with heap := h2, toks := tk2 } := fun h2 tk2 old2 c2 st2 b2 g2 k2 =>
      ih (j + 1) { s with heap := h2, toks := tk2 } old2 c2 (by omega) hlt st2 b2 g2 fun v' h'' tk'' ho hk'' => hR v' h'' tk'' ho fun b o hbw hbS e => hk'' b o hbw hbS (k2 b o hbw hbS e)
    have fr : ∀ (h2 : Heap), (∀ b, b ≠ B → h2.get? b = h'.get? b) → St (j + 1) h2 := fun h2 q => W.frame _ _ _ hst' fun b hbf o e => (q b fun z => hB (z ▸ hbf)).trans e
    rcases hbest with ⟨rfl, h0⟩ | ⟨b, t, rfl, hm⟩
    · show wpAny _ A.in1 (updateSeq B (fun _ => #[Value.int (num j) u, Value.int (num j) u]) >>= _) _ _ _
      refine wpAny_bind (wpAny_updateSeq hS' rfl ?_)
      rw [hname]
      refine wpAny_pure ⟨plainId_quiet F.plain_max_loop _, go _ tk _ _ (fr _ fun b hb => Heap.get?_update_other _ _ (Ne.symm hb)) (.inr ⟨num j, u, rfl, ⟨j, by omega, rfl⟩, fun i hi => ?_⟩) (Heap.get?_update_self _ hS' rfl) fun x o hbw hbS e => (Heap.get?_update_other _ _ (Ne.symm hbS)).trans (hk' x o hbw e)⟩
      have : i = j := by omega
      rw [this]
      exact Int.le_refl _
    · show wpAny _ A.in1 (tryCatch (holding [Value.int (num j) u, Value.int (num j) u] (richCompare .Gt (Value.int (num j) u) (Value.int b t) >>= _)) _ >>= _) _ _ _
      have hcmp := CmpOf.ints_gt (prog := prog) (w := w) (A := A.in1) (P := fun i v => ∃ t, v = Value.int (if i = 0 then num j else b) t) (fun i => if i = 0 then num j else b) (fun i v h => h)
      refine wpAny_bind (wpAny_tryCatch (wpAny_holding (wpAny_bind (hcmp 0 1 _ _ _ _ _ ⟨u, rfl⟩ ⟨t, rfl⟩ ?_))))
      refine wpAny_bind (wpAny_holding (wpAny_truthy_bool ?_))
      refine wpAny_bind (wpAny_letGo (wpAny_pure ?_))
      by_cases hg : num j > b
      · have e : decide ((if (0 : Nat) = 0 then num j else b) > if (1 : Nat) = 0 then num j else b) = true := decide_eq_true hg
        rw [if_pos e]
        refine wpAny_bind ?_
        refine wpAny_updateSeq hS' rfl (wpAny_bind (wpAny_letGo ?_))
        rw [hname]
        exact wpAny_pure ⟨plainId_quiet F.plain_max_loop _, go _ tk _ _ (fr _ fun b hb => Heap.get?_update_other _ _ (Ne.symm hb)) (.inr ⟨num j, u, rfl, hm.up hg⟩) (Heap.get?_update_self _ hS' rfl) fun x o hbw hbS e => (Heap.get?_update_other _ _ (Ne.symm hbS)).trans (hk' x o hbw e)⟩
      · have e : decide ((if (0 : Nat) = 0 then num j else b) > if (1 : Nat) = 0 then num j else b) = false := decide_eq_false hg
        rw [if_neg (fun h => Bool.false_ne_true (e.symm.trans h))]
        refine wpAny_bind (wpAny_letGo ?_)
        rw [hname]
        exact wpAny_pure ⟨plainId_quiet F.plain_max_loop _, go _ tk _ _ hst' (.inr ⟨b, t, rfl, hm.stay hg⟩) hS' fun x o hbw _ e => hk' x o hbw e⟩
theorem args_maxD (a d : Value) : argsOk "max" ⟨[a], [("default", d)]⟩ := by unfold argsOk; kernel_rfl
theorem tree_kw {E : Value → Shared → Prop} {s : Shared} {id : String} {b : Builtin} {args : List Value} {kw : List (Str × Value)} {Q : Value → Shared → Prop} (hk : builtinKind id = none) (hp : plainId id = true) (hb : entryFor table id = some b) (ha : argsOk id ⟨args, kw⟩)
    (hc : wpAny (model prog w) A.in1 (b ⟨args, kw⟩) (fun fin s' => match fin with
      | .done f => (match (Except.ok f : Result) with | .ok (.ret v) => Q v s' | .ok _ => False | .error e => E e s')
      | .again c' => c'.quiet = true ∧ codeAny (model prog w) A c' (fun r s' => match r with | .ok (.ret v) => Q v s' | .ok _ => False | .error e => E e s') s') E s) :
    wpAny (model prog w) A (call (.builtin id) args kw) Q E s := by
  refine wpAny_call (codeAny_call_builtin hp hb ?_)
  simp only [checkBuiltinCall, hk]
  cases hsig : Manifest.signature? id with
  | none => exact wpAny_pure hc
  | some sig =>
    simp only [argsOk, hsig] at ha
    have h2 : Bind.checkArgs id sig ⟨args, kw⟩ = pure () := ha
    show wpAny _ A.in1 (Bind.checkArgs id sig ⟨args, kw⟩) _ _ s
    rw [h2]
    exact wpAny_pure hc
theorem maxD_list {E : Value → Shared → Prop} {s : Shared} {l : Addr} {xs : Array (Int × Tok)} {d : Value} {Q : Value → Shared → Prop} (hh : A.handled = none) (hl : s.heap.IsList l (intItems xs))
    (h : ∀ v h' tk, OutD (numAt xs) xs.size d v → (∀ b o, s.heap.get? b = some o → h'.get? b = some o) → Q v { s with heap := h', toks := tk }) :
    wpAny (model prog w) A (call (.builtin "max") [.ref l] [("default", d)]) Q E s := by
  have hname : (toString "max" ++ toString ".loop" : String) = "max.loop" := by decide
  refine tree_kw F.kind_max F.plain_max F.entry_max (args_maxD _ _) ?_
  show wpAny _ A.in1 (Builtin.Builtins.bindParams "max" ["key", "default"] 0 ⟨[], [("default", d)]⟩ >>= _) _ _ s
  refine wpAny_bind (wpAny_of_eq (show Builtin.Builtins.bindParams "max" ["key", "default"] 0 ⟨[], [("default", d)]⟩ = pure [none, some d] from rfl) ?_)
  refine wpAny_bind (wpAny_pure ?_)
  refine wpAny_bind (iter_intList hl fun s₂ e st hfp hne => ?_)
  subst e
  refine wpAny_bind (wpAny_newObj_type ?_)
  rw [hname]
  have W := Walks.list (prog := prog) (w := w) (A := A.in1) hh _ l hne (intItems xs)
  have hsz : (intItems xs).size = xs.size := by unfold intItems; exact Array.size_map
  refine wpAny_pure ⟨plainId_quiet F.plain_max_loop _, max_loopD W (num := numAt xs) (fun i v => intItems_at) d (fun hm => Nat.lt_irrefl _ (hfp _ hm)) _ 0 _ #[] _ rfl (Nat.zero_le _) (W.frame _ _ _ st fun b _ o e => Heap.get?_push_of_some _ e) (.inl ⟨rfl, rfl⟩) (Heap.get?_push_size _ rfl) fun v h' tk ho hk => ?_⟩
  rw [hsz] at ho
  refine h v h' tk ho fun b o e => ?_
  have e1 := Heap.lt_size e
  refine hk b o (fun hm => ?_) (fun hm => ?_) (Heap.get?_push_of_some _ (Heap.get?_push_of_some _ e))
  · rw [List.mem_singleton.mp hm] at e1
    exact Nat.lt_irrefl _ e1
  · rw [hm] at e1
    have : s.heap.objs.size ≤ (s.heap.push { cls := .type "list_iterator", data := .fields #[.ref l, .int 0 0] }).objs.size := by rw [Heap.size_push]; omega
    exact absurd e1 (Nat.not_lt.mpr this)
end
/-- the greatest of a list, or what is said for none -/
def mxD (d : Int) : List Int → Int
  | [] => d
  | n :: r => r.foldl max n
theorem foldl_max_le : ∀ (r : List Int) (n : Int), n ≤ r.foldl max n ∧ ∀ x ∈ r, x ≤ r.foldl max n
  | [], n => ⟨Int.le_refl _, fun x hx => by cases hx⟩
  | y :: r, n => by
    obtain ⟨h1, h2⟩ := foldl_max_le r (max n y)
    show n ≤ r.foldl max (max n y) ∧ _
    refine ⟨by omega, fun x hx => ?_⟩
    rcases List.mem_cons.mp hx with rfl | hx
    · show x ≤ r.foldl max (max n x)
      omega
    · exact h2 x hx
theorem foldl_max_mem : ∀ (r : List Int) (n : Int), r.foldl max n ∈ n :: r
  | [], n => List.mem_cons_self
  | y :: r, n => by
    have h := foldl_max_mem r (max n y)
    show r.foldl max (max n y) ∈ _
    rcases List.mem_cons.mp h with h | h
    · rw [h]
      by_cases e : n ≤ y
      · rw [Int.max_eq_right e]; simp
      · rw [Int.max_eq_left (by omega)]; simp
    · exact List.mem_cons_of_mem _ (List.mem_cons_of_mem _ h)
theorem mxD_of {d : Int} {ns : List Int} {M : Int} (h : M ∈ ns) (h2 : ∀ x ∈ ns, x ≤ M) : mxD d ns = M := by
  cases ns with
  | nil => cases h
  | cons n r =>
    obtain ⟨h3, h4⟩ := foldl_max_le r n
    have h5 := foldl_max_mem r n
    have h6 := h2 _ h5
    show r.foldl max n = M
    rcases List.mem_cons.mp h with rfl | h
    · omega
    · have := h4 M h; omega
theorem maxD_raw {prog : Program} {w : World} {A : Around} {E : Value → Shared → Prop} {s : Shared} {l : Addr} {its : List Value} {ns : List Int} {d : Int} {t : Tok} {Q : Value → Shared → Prop} (hh : A.handled = none) (hl : s.heap.IsList l its.toArray) (hi : IntsAre its ns)
    (h : ∀ h' tk t', (∀ b o, s.heap.get? b = some o → h'.get? b = some o) → Q (.int (mxD d ns) t') { s with heap := h', toks := tk }) : wpAny (model prog w) A (call (.builtin "max") [.ref l] [("default", .int d t)]) Q E s := by
  obtain ⟨xs, e⟩ := hi.allInts.items
  have hn : numsOf (intItems xs).toList = ns := by rw [← e]; exact hi.numsOf
  rw [nums_intItems] at hn
  subst hn
  rw [e] at hl
  refine maxD_list hh hl fun v h' tk ho hk => ?_
  rcases ho with ⟨h0, rfl⟩ | ⟨b, t', rfl, ⟨i, hi, rfl⟩, hm2⟩
  · have e0 : xs.toList = [] := List.length_eq_zero_iff.mp (by rw [Array.length_toList]; exact h0)
    have := h h' tk t hk
    rw [e0] at this
    exact this
  · rw [← mxD_of (d := d) (ns := xs.toList.map (·.1)) (M := numAt xs i)]
    · exact h h' tk t' hk
    · rw [numAt_eq]; exact PySem.getD_mem (by rw [List.length_map, Array.length_toList]; omega)
    · intro a ha
      obtain ⟨j, hj, rfl⟩ := mem_getD ha
      rw [List.length_map, Array.length_toList] at hj
      rw [← numAt_eq]
      exact hm2 j (by omega)
def tMaxD (K : PySem.W.Frag) (t : TA) (tk : TA) : TE := fun σ H Q => t σ H fun vs H1 => tk σ H1 fun zs H2 => ∃ (a : Addr) (ns : List Int) (d : Int), vs = [V.ref a] ∧ zs = [V.int d] ∧ SqL K H2 a (ns.map V.int) ∧ Q (.int (mxD d ns)) H2
theorem pe_maxD {X : Cx} {K : PySem.W.Frag} {p pos kpos : Pos} {e e2 : Expr} {t tk : TA} (hc : X.calm = true) (hg : Gl X "max") (hm : X.mg "max" = none) (ha : PA X [e] t) (hk : PK X [⟨some "default", e2, kpos⟩] tk) (hK : X.K = K := by rfl)
    (he : backTo pos (starEach [e] X.env) = (false, eval e X.env) :: backTo pos (starEach [] X.env) := by rfl) (hpl : (backTo pos (starEach [e] X.env)).any (·.1) = false := by rfl) :
    PE X (.Call (.Name "max" p) [e] [⟨some "default", e2, kpos⟩] pos) (tMaxD K t tk) := by
  subst hK
  refine ⟨fun pins s σ H Q I h => ?_⟩
  refine wpAny_Call_Name_kw (ld_blt I hg hm bt_max ?_ (by decide) (by decide))
  refine PyProof.Rows.callWith_kw (thn (ha.run pos pins s σ H _ I h) fun us s1 ⟨vs, H1, I1, r1, q1⟩ => thn (hk.run pos pins s1 σ H1 _ I1 q1) fun ws s2 ⟨zs, H2, I2, r2, q2⟩ => ?_) he hpl
  obtain ⟨a, ns, d, rfl, rfl, hs, q⟩ := q2
  obtain ⟨its, rv, hl, _⟩ := I2.list hs
  rw [Vals.ref1 r1]
  obtain ⟨u, rfl, tt, rfl⟩ := vals1 r2
  exact maxD_raw (I2.ok.hd hc) hl.isList rv.ints fun h' tk t' hk => ⟨.int _, H2, I2.kept hk, ⟨_, rfl⟩, q⟩
end CB

set_option Elab.async false
set_option linter.all false
set_option maxRecDepth 100000
set_option maxHeartbeats 2000000
/-! a tuple times a number, once or more -/
namespace CB
open PySem PySem.Spec PyProof.Rows L2
theorem tuple_mul1 (l : Addr) (items : Array Value) (n : Nat) (dd : Option Addr) (sl : Array (Option Value)) (u : Tok) :
    Meets (Builtin.«tuple.__mul__» ⟨[.ref l, .int 1 u], []⟩) (fun _ R s => s.heap.get? l = some { cls := .type "tuple", dict := dd, data := .seq items n, slots := sl } ∧ R (.ok (.ret (Value.ref l))) s) :=
  .of_wp fun prog w A R s h => by
    obtain ⟨hp, g, d, tk, os⟩ := s
    obtain ⟨hl, h⟩ := h
    have f1 := AutoSeq1.idx_int
    wp_walk using wpAny_loadPart' hl
    exact ⟨_, rfl, h⟩
def rRepT1 (K : PySem.W.Frag) : R2 := fun x y H Q => ∃ l k xs, x = .ref l ∧ y = .int k ∧ SqT K H l xs ∧ xs ≠ [] ∧ 1 ≤ k ∧ k ≤ 1000 ∧ xs.length ≤ 1000 ∧ (k = 1 → Q (.ref l) H) ∧ ∀ p, H p = none → Q (.ref p) (upd H p (.tup (List.replicate k.toNat xs).flatten))
theorem op_repT1 {X : Cx} {K : PySem.W.Frag} (hK : X.K = K := by rfl) : OpR X (binaryOp .Mult) (rRepT1 K) := by
  subst hK
  intro pins s σ H x y v u Q I rx ry h
  obtain ⟨l, k, xs, rfl, rfl, hT, hne, h1, h2, hz, q1, q⟩ := h
  by_cases e : k = 1
  · subst e
    cases rx
    obtain ⟨t, rfl⟩ := ry
    obtain ⟨its, r, ⟨⟨cls, dd, data, sl⟩, ho, hc, n, hd⟩, hs⟩ := I.tuple hT
    simp only at hc hd
    subst hc hd
    exact wpAny_binaryOp_repeat_ref (T := "tuple") (U := "int") (by decide) ⟨_, ho, rfl⟩ (fun s' => typeIs_int s' 1 t) noFill_tuple_mul F.fills_int_mul F.slot_int_rmul repeat_tuple F.slot_int_index.lookup
      (call_meets F.slot_int_rmul (typeIs_int s 1 t) F.entry_int_rmul (F.args_int_rmul_2 _ _) (int_rmul_tuple 1 t l its.toArray n dd sl)
        ⟨ho, rfl, ⟨_, ho, rfl⟩, call_meets F.slot_tuple_mul ⟨_, ho, rfl⟩ F.entry_tuple_mul (F.args_tuple_mul_2 _ _) (tuple_mul1 l its.toArray n dd sl t) ⟨ho, ⟨.ref l, H, I, rfl, q1 rfl⟩⟩⟩)
  · exact op_repT pins s σ H _ _ v u Q I rx ry ⟨l, k, xs, rfl, rfl, hT, hne, by omega, h2, hz, q⟩
/-! ### what was not frozen and stood stays unfrozen, beside the deal -/
structure Nf (F H F' : Hp) : Prop where
  ex : Ex F F'
  nf : ∀ a, F a = none → H a ≠ none → F' a = none
section
variable {d l z : Addr} {F H F1 H1 F2 H2 : Hp} {o : HO}
theorem Wr.alive (W : Wr d l F1 H1) (k : Kp d l H H1) {a : Addr} (h : H a ≠ none) : H1 a ≠ none := by
  obtain ⟨s, n, ls, D⟩ := W.deal
  by_cases e1 : a = d
  · rw [e1, D.hd]; exact fun h => by cases h
  · by_cases e2 : a = l
    · rw [e2, D.hl]; exact fun h => by cases h
    · cases q : H a with
      | none => exact absurd q h
      | some u => rw [k a u e1 e2 q]; exact fun h => by cases h
theorem Nf.refl : Nf F H F := ⟨Evl.Ex.refl _, fun _ e _ => e⟩
theorem Nf.new (h : Nf F H F1) (W : Wr d l F1 H1) (k : Kp d l H H1) (hz : H1 z = none) : Nf F H (upd F1 z o) :=
  ⟨h.ex.trans (Evl.Ex.new (sub_none W.sub hz)), fun a e1 e2 => by
    have ne : a ≠ z := fun e => W.alive k e2 (by rw [e]; exact hz)
    rw [upd_ne ne]
    exact h.nf a e1 e2⟩
theorem Nf.gr (h : Nf F H F1) (W : Wr d l F1 H1) (k : Kp d l H H1) (g : Gr NoS F1 H1 F2 H2) : Nf F H F2 := ⟨h.ex.trans g.fz, fun a e1 e2 => g.nf a (h.nf a e1 e2) (W.alive k e2)⟩
theorem Nf.trans (h : Nf F H F1) (W : Wr d l F1 H1) (k : Kp d l H H1) (g : Nf F1 H1 F2) : Nf F H F2 := ⟨h.ex.trans g.ex, fun a e1 e2 => g.nf a (h.nf a e1 e2) (W.alive k e2)⟩
end
theorem cut_mem {xs : List V} {lo hi : Option Int} {y : V} (h : y ∈ cutV xs lo hi) : y ∈ xs := by
  unfold cutV at h
  exact List.mem_of_mem_drop (List.mem_of_mem_take h)
theorem cut_len (xs : List V) (lo hi : Option Int) : (cutV xs lo hi).length ≤ xs.length := by
  unfold cutV
  rw [List.length_take, List.length_drop]
  omega
/-! ### rows made bare -/
/-- the common part of a row -/
def gcF (g : Nat) (row : List Int) : Nat := row.foldl (fun g x => Nat.gcd g x.natAbs) g
def gc (row : List Int) : Nat := gcF 0 row
/-- the last number that is not 0, or 0 -/
def ls : List Int → Int
  | [] => 0
  | x :: r => if ls r = 0 then x else ls r
/-- what a row is divided by -/
def sc (row : List Int) : Int := if ls row < 0 then 0 - (gc row : Int) else gc row
def bareL (row : List Int) : List Int := if gc row = 0 then row else row.map fun x => x.fdiv (sc row)
theorem gcF_snoc (g : Nat) (row : List Int) (x : Int) : gcF g (row ++ [x]) = Nat.gcd (gcF g row) x.natAbs := by
  unfold gcF
  rw [List.foldl_append]
  rfl
theorem gcF_dvd : ∀ (row : List Int) (g : Nat), gcF g row ∣ g ∧ ∀ x ∈ row, gcF g row ∣ x.natAbs
  | [], g => ⟨Nat.dvd_refl _, fun x hx => by cases hx⟩
  | y :: r, g => by
    obtain ⟨h1, h2⟩ := gcF_dvd r (Nat.gcd g y.natAbs)
    refine ⟨Nat.dvd_trans h1 (Nat.gcd_dvd_left _ _), fun x hx => ?_⟩
    rcases List.mem_cons.mp hx with rfl | hx
    · exact Nat.dvd_trans h1 (Nat.gcd_dvd_right _ _)
    · exact h2 x hx
theorem gcF_mul (c : Int) : ∀ (row : List Int) (g : Nat), gcF (c.natAbs * g) (row.map fun x => c * x) = c.natAbs * gcF g row
  | [], g => rfl
  | y :: r, g => by
    show gcF (Nat.gcd (c.natAbs * g) (c * y).natAbs) (r.map fun x => c * x) = c.natAbs * gcF (Nat.gcd g y.natAbs) r
    rw [Int.natAbs_mul, Nat.gcd_mul_left, gcF_mul c r]
theorem gc_mul (c : Int) (row : List Int) : gc (row.map fun x => c * x) = c.natAbs * gc row := by
  have := gcF_mul c row 0
  rw [Nat.mul_zero] at this
  exact this
theorem gc_zero {row : List Int} : gc row = 0 → ∀ x ∈ row, x = 0 := fun h x hx => by
  have := (gcF_dvd row 0).2 x hx
  unfold gc at h
  rw [h, Nat.zero_dvd] at this
  omega
theorem ls_mul {c : Int} (hc : c ≠ 0) : ∀ row : List Int, ls (row.map fun x => c * x) = c * ls row
  | [] => by simp [ls]
  | x :: r => by
    show (if ls (r.map fun x => c * x) = 0 then c * x else ls (r.map fun x => c * x)) = c * (if ls r = 0 then x else ls r)
    rw [ls_mul hc r]
    by_cases h : ls r = 0
    · rw [if_pos h, if_pos (by rw [h, Int.mul_zero])]
    · rw [if_neg h, if_neg (Int.mul_ne_zero hc h)]
theorem ls_mem : ∀ {row : List Int}, ls row ≠ 0 → ls row ∈ row
  | [], h => absurd rfl h
  | x :: r, h => by
    show (if ls r = 0 then x else ls r) ∈ _
    by_cases e : ls r = 0
    · rw [if_pos e]; exact List.mem_cons_self
    · rw [if_neg e]; exact List.mem_cons_of_mem _ (ls_mem e)
theorem ls_zero : ∀ {row : List Int}, ls row = 0 → ∀ x ∈ row, x = 0
  | [], _, x, hx => by cases hx
  | y :: r, h, x, hx => by
    have h' : (if ls r = 0 then y else ls r) = 0 := h
    by_cases e : ls r = 0
    · rw [if_pos e] at h'
      rcases List.mem_cons.mp hx with rfl | hx
      · exact h'
      · exact ls_zero e x hx
    · rw [if_neg e] at h'
      exact absurd h' e
theorem ls_null : ∀ {row : List Int}, (∀ x ∈ row, x = 0) → ls row = 0
  | [], _ => rfl
  | y :: r, h => by
    show (if ls r = 0 then y else ls r) = 0
    rw [if_pos (ls_null fun x hx => h x (List.mem_cons_of_mem _ hx))]
    exact h y List.mem_cons_self
theorem gc_pos {row : List Int} (h : ls row ≠ 0) : gc row ≠ 0 := fun e => h (gc_zero e _ (ls_mem h))
theorem sc_ne {row : List Int} (h : gc row ≠ 0) : sc row ≠ 0 := by
  unfold sc
  split <;> omega
theorem sc_abs {row : List Int} : (sc row).natAbs = gc row := by
  unfold sc
  split <;> omega
theorem sc_mul {row : List Int} (h : gc row ≠ 0) {x : Int} (hx : x ∈ row) : x = sc row * x.fdiv (sc row) := by
  have hd : sc row ∣ x := Int.natAbs_dvd_natAbs.mp (by rw [sc_abs]; exact (gcF_dvd row 0).2 x hx)
  exact (Int.mul_fdiv_cancel' hd).symm
theorem bare_mul {row : List Int} (h : gc row ≠ 0) : row = (bareL row).map fun x => sc row * x := by
  unfold bareL
  rw [if_neg h, List.map_map]
  conv => lhs; rw [← List.map_id row]
  exact List.map_congr_left fun x hx => sc_mul h hx
theorem bare_gc {row : List Int} (h : gc row ≠ 0) : gc (bareL row) = 1 := by
  have e := congrArg gc (bare_mul h)
  rw [gc_mul, sc_abs] at e
  exact Nat.eq_of_mul_eq_mul_left (Nat.pos_of_ne_zero h) (by omega)
theorem bare_ls {row : List Int} (h : gc row ≠ 0) : ¬ ls (bareL row) < 0 := fun hn => by
  have e := congrArg ls (bare_mul h)
  rw [ls_mul (sc_ne h)] at e
  by_cases hs : ls row < 0
  · have h2 : sc row = 0 - (gc row : Int) := if_pos hs
    have h3 : sc row < 0 := by omega
    have := Int.mul_pos_of_neg_of_neg h3 hn
    omega
  · have h2 : sc row = (gc row : Int) := if_neg hs
    have h3 : 0 < sc row := by omega
    have := Int.mul_neg_of_pos_of_neg h3 hn
    omega
theorem bare_bare (row : List Int) : bareL (bareL row) = bareL row := by
  by_cases h : gc row = 0
  · unfold bareL
    rw [if_pos h, if_pos h]
  · have h1 := bare_gc h
    have h2 : sc (bareL row) = 1 := by
      unfold sc
      rw [if_neg (bare_ls h), h1]
      rfl
    have h3 : bareL (bareL row) = (bareL row).map fun x => x.fdiv (sc (bareL row)) := if_neg (by omega)
    rw [h3, h2]
    conv => rhs; rw [← List.map_id (bareL row)]
    exact List.map_congr_left fun x _ => Int.fdiv_one x
/-- the place of the last number that is not 0 -/
def IsLd (row : List Int) (k : Int) : Prop := (k = -1 ∧ ∀ x ∈ row, x = 0) ∨ ∃ (n : Nat) (x : Int), k = n ∧ row[n]? = some x ∧ x ≠ 0 ∧ ∀ j y, n < j → row[j]? = some y → y = 0
theorem IsLd.uniq {row : List Int} {k k' : Int} (h : IsLd row k) (h' : IsLd row k') : k = k' := by
  rcases h with ⟨rfl, hz⟩ | ⟨n, x, rfl, e, ne, hz⟩
  · rcases h' with ⟨rfl, _⟩ | ⟨m, y, rfl, e', ne', _⟩
    · rfl
    · exact absurd (hz y (List.mem_of_getElem? e')) ne'
  · rcases h' with ⟨rfl, hz'⟩ | ⟨m, y, rfl, e', ne', hz'⟩
    · exact absurd (hz' x (List.mem_of_getElem? e)) ne
    · rcases Nat.lt_trichotomy n m with h | h | h
      · exact absurd (hz m y h e') ne'
      · rw [h]
      · exact absurd (hz' n x h e) ne
theorem IsLd.bare {row : List Int} {k : Int} (h : IsLd (bareL row) k) : IsLd row k := by
  by_cases hg : gc row = 0
  · unfold bareL at h
    rwa [if_pos hg] at h
  · have e := bare_mul hg
    have hs := sc_ne hg
    have get : ∀ j, row[j]? = ((bareL row)[j]?).map fun x => sc row * x := fun j => by
      rw [← List.getElem?_map, ← e]
    rcases h with ⟨rfl, hz⟩ | ⟨n, x, rfl, ex, ne, hz⟩
    · refine .inl ⟨rfl, fun x hx => ?_⟩
      rw [e] at hx
      obtain ⟨y, hy, rfl⟩ := List.mem_map.mp hx
      rw [hz y hy, Int.mul_zero]
    · refine .inr ⟨n, sc row * x, rfl, by rw [get, ex]; rfl, Int.mul_ne_zero hs ne, fun j y hj ey => ?_⟩
      rw [get] at ey
      obtain ⟨z, ez, rfl⟩ := Option.map_eq_some_iff.mp ey
      rw [hz j z hj ez, Int.mul_zero]
theorem ls_get : ∀ {row : List Int} {n : Nat} {x : Int}, row[n]? = some x → x ≠ 0 → (∀ j y, n < j → row[j]? = some y → y = 0) → ls row = x
  | [], _, _, e, _, _ => by simp at e
  | y :: r, 0, x, e, ne, hz => by
    have e' : y = x := by simpa using e
    subst e'
    show (if ls r = 0 then y else ls r) = y
    rw [if_pos]
    exact ls_null fun z hz' => by
      obtain ⟨j, hj, rfl⟩ := List.mem_iff_getElem.mp hz'
      exact hz (j + 1) _ (by omega) (by rw [List.getElem?_cons_succ]; exact List.getElem?_eq_getElem hj)
  | y :: r, n + 1, x, e, ne, hz => by
    have ih := ls_get (row := r) (n := n) (by simpa using e) ne fun j z hj ez => hz (j + 1) z (by omega) (by simpa using ez)
    show (if ls r = 0 then y else ls r) = x
    rw [ih, if_neg ne]
/-- the last of those that are not 0 -/
theorem ls_filter : ∀ row : List Int, (row.filter fun x => decide (x ≠ 0)).getLast? = if ls row = 0 then none else some (ls row)
  | [] => rfl
  | y :: r => by
    have ih := ls_filter r
    show ((y :: r).filter fun x => decide (x ≠ 0)).getLast? = if (if ls r = 0 then y else ls r) = 0 then none else some (if ls r = 0 then y else ls r)
    by_cases h : ls r = 0
    · rw [if_pos h] at ih ⊢
      have e0 : (r.filter fun x => decide (x ≠ 0)) = [] := List.getLast?_eq_none_iff.mp ih
      by_cases hy : y = 0
      · rw [List.filter_cons_of_neg (by simp [hy]), e0, if_pos hy]
        rfl
      · rw [List.filter_cons_of_pos (by simp [hy]), e0, if_neg hy]
        rfl
    · rw [if_neg h] at ih ⊢
      rw [if_neg h]
      by_cases hy : y = 0
      · rw [List.filter_cons_of_neg (by simp [hy]), ih]
      · rw [List.filter_cons_of_pos (by simp [hy]), List.getLast?_cons, ih]
        rfl
end CB

set_option Elab.async false
set_option linter.all false
set_option maxRecDepth 100000
set_option maxHeartbeats 2000000
namespace CB
open PySem PySem.Spec PyProof.Rows L2
/-! ### lists whose things are told one by one -/
inductive F2 {β : Type} (R : V → β → Prop) : List V → List β → Prop
  | nil : F2 R [] []
  | cons {v : V} {b : β} {vs : List V} {bs : List β} : R v b → F2 R vs bs → F2 R (v :: vs) (b :: bs)
section
variable {β : Type} {R R' : V → β → Prop}
theorem F2.length : ∀ {vs : List V} {bs : List β}, F2 R vs bs → vs.length = bs.length
  | _, _, .nil => rfl
  | _, _, .cons _ h => by rw [List.length_cons, List.length_cons, F2.length h]
theorem F2.mono (h : ∀ v b, R v b → R' v b) : ∀ {vs : List V} {bs : List β}, F2 R vs bs → F2 R' vs bs
  | _, _, .nil => .nil
  | _, _, .cons a t => .cons (h _ _ a) (F2.mono h t)
theorem F2.append : ∀ {vs ws : List V} {bs cs : List β}, F2 R vs bs → F2 R ws cs → F2 R (vs ++ ws) (bs ++ cs)
  | _, _, _, _, .nil, h => h
  | _, _, _, _, .cons a t, h => .cons a (F2.append t h)
theorem F2.snoc {vs : List V} {v : V} {bs : List β} {b : β} (h : F2 R vs bs) (k : R v b) : F2 R (vs ++ [v]) (bs ++ [b]) := h.append (.cons k .nil)
theorem F2.get : ∀ {vs : List V} {bs : List β} {i : Nat} {v : V}, F2 R vs bs → vs[i]? = some v → ∃ b, bs[i]? = some b ∧ R v b
  | _, _, _, _, .nil, e => by simp at e
  | _, _, 0, _, .cons h _, e => by simp at e; subst e; exact ⟨_, rfl, h⟩
  | _, _, i + 1, _, .cons _ h, e => by
    obtain ⟨d, e1, e2⟩ := F2.get (i := i) h (by simpa using e)
    exact ⟨d, by simpa using e1, e2⟩
theorem F2.get' : ∀ {vs : List V} {bs : List β} {i : Nat} {b : β}, F2 R vs bs → bs[i]? = some b → ∃ v, vs[i]? = some v ∧ R v b
  | _, _, _, _, .nil, e => by simp at e
  | _, _, 0, _, .cons h _, e => by simp at e; subst e; exact ⟨_, rfl, h⟩
  | _, _, i + 1, _, .cons _ h, e => by
    obtain ⟨d, e1, e2⟩ := F2.get' (i := i) h (by simpa using e)
    exact ⟨d, by simpa using e1, e2⟩
theorem F2.pairs : ∀ {vs : List V} {bs : List β}, F2 R vs bs → ∀ q ∈ vs.zip bs, R q.1 q.2
  | _, _, .nil, q, h => by simp at h
  | _, _, .cons a t, q, h => by
    rw [List.zip_cons_cons] at h
    rcases List.mem_cons.mp h with rfl | h
    · exact a
    · exact F2.pairs t q h
theorem F2.of_pairs : ∀ (l : List (V × β)), (∀ q ∈ l, R q.1 q.2) → F2 R (l.map Prod.fst) (l.map Prod.snd)
  | [], _ => .nil
  | q :: r, h => .cons (h q List.mem_cons_self) (F2.of_pairs r fun x hx => h x (List.mem_cons_of_mem _ hx))
theorem F2.dp {K : PySem.W.Frag} {F : Hp} {enc : β → PyData} (h : ∀ v b, R v b → Dp K F v (enc b)) : ∀ {vs : List V} {bs : List β}, F2 R vs bs → DpAll K F vs (bs.map enc)
  | _, _, .nil => .nil
  | _, _, .cons a t => .cons (h _ _ a) (F2.dp h t)
/-- the values behind a sort by data -/
abbrev srt (xs : List V) (ds : List PyData) : List V := ((xs.zip ds).mergeSort (PySem.W.dataLe false Prod.snd)).map Prod.fst
theorem F2.sort {enc : β → PyData} {vs : List V} {bs : List β} (h : F2 R vs bs) : F2 R (srt vs (bs.map enc)) (bs.mergeSort (PySem.W.dataLe false enc)) := by
  have e1 : vs.zip (bs.map enc) = (vs.zip bs).map fun q => (q.1, enc q.2) := by
    rw [List.zip_map_right]
    rfl
  have e2 : (vs.zip bs).map Prod.snd = bs := List.map_snd_zip (by rw [h.length]; exact Nat.le_refl _)
  have m1 := PySem.W.sort_maps (l := vs.zip bs) (r := PySem.W.dataLe false fun q : V × β => enc q.2) (s := PySem.W.dataLe false Prod.snd) (fun q : V × β => (q.1, enc q.2)) (fun _ _ _ _ => rfl)
  have m2 := PySem.W.sort_maps (l := vs.zip bs) (r := PySem.W.dataLe false fun q : V × β => enc q.2) (s := PySem.W.dataLe false enc) Prod.snd (fun _ _ _ _ => rfl)
  rw [e2] at m2
  unfold srt
  rw [e1, ← m1, ← m2, List.map_map]
  exact F2.of_pairs _ fun q hq => h.pairs q ((List.mergeSort_perm _ _).mem_iff.mp hq)
end
theorem cr_sortP {X : Cx} {K : PySem.W.Frag} (hu : X.A.units + 64 < cLine) (hK : X.K = K := by rfl) : CallR X (.builtin "sorted") (fun vs H Q => ∃ (a : Addr) (xs : List V) (ds : List PyData), vs = [V.ref a] ∧ SqL K H a xs ∧ DpAll K H xs ds ∧ PySem.W.AllAlike ds ∧ PySem.W.Sortable ds ∧ (∀ d ∈ ds, d.depth ≤ 60) ∧
    ∀ p, H p = none → Q (.ref p) (upd H p (.lst (srt xs ds)))) := by
  subst hK
  intro pins s σ H vs us Q I r h
  obtain ⟨a, xs, ds, rfl, hs, hd, hal, hsr, hdp, q⟩ := h
  obtain ⟨its, rv, hl, hz⟩ := I.list hs
  rw [Vals.ref1 r]
  have hlen := DpAll.length hd
  obtain ⟨e1, e2⟩ := each_zip I rv hd
  have esnd := zip_snd hlen
  refine PySem.W.sorted_data (enc := Prod.snd) hl.isList e1 e2 (by rw [esnd]; exact hal) (by rw [esnd]; exact hsr) (by rw [List.length_zip]; omega) (fun p hp => ?_) fun out hout he => ?_
  · have := hdp p.2 (by rw [← esnd]; exact List.mem_map_of_mem hp)
    omega
  · obtain ⟨e, hat⟩ := sortedAll_at s.heap its out.toArray
    have hv := vals_each he
    refine ⟨.ref (s.heap.objs.size + 1), upd H (s.heap.objs.size + 1) (.lst _), I.laid (t' := s.toks) (fun b u eb => sortedAll_old eb) (by omega) (show ObjOk X.prog X.w _ _ _ (.lst _) from ⟨?_, out, e, hv, ?_⟩), rfl, q _ (I.hok.fresh (by omega))⟩
    · rw [List.length_map, List.length_mergeSort, List.length_zip]
      omega
    · exact hat
/-! ### tracked tuples of whole numbers -/
def Tr (F : Hp) (v : V) (p : List Int) : Prop := ∃ a, v = .ref a ∧ F a = some (.tup (p.map V.int))
/-- a pair of a degree and a tracked tuple -/
def Pr (F : Hp) (v : V) (p : List Int) : Prop := ∃ t a, v = .ref t ∧ F t = some (.tup [.int p.sum, .ref a]) ∧ F a = some (.tup (p.map V.int))
section
variable {K : PySem.W.Frag} {F F' : Hp} {v : V} {p : List Int}
theorem Tr.ex (e : Ex F F') (h : Tr F v p) : Tr F' v p := by
  obtain ⟨a, rfl, h⟩ := h
  exact ⟨a, rfl, e _ _ h⟩
theorem Pr.ex (e : Ex F F') (h : Pr F v p) : Pr F' v p := by
  obtain ⟨t, a, rfl, h1, h2⟩ := h
  exact ⟨t, a, rfl, e _ _ h1, e _ _ h2⟩
theorem Tr.dp (h : Tr F v p) : Dp K F v (ti p) := by
  obtain ⟨a, rfl, h⟩ := h
  exact Dp.of_ti (SqT.of h)
theorem Pr.dp (h : Pr F v p) : Dp K F v (encP p) := by
  obtain ⟨t, a, rfl, h1, h2⟩ := h
  exact .tup (SqT.of h1) (.cons (.int _) (.cons (Dp.of_ti (SqT.of h2)) .nil))
abbrev TrAll (F : Hp) : List V → List (List Int) → Prop := F2 (Tr F)
theorem TrAll.ex (e : Ex F F') {vs : List V} {r : List (List Int)} (h : TrAll F vs r) : TrAll F' vs r := F2.mono (fun _ _ => Tr.ex e) h
theorem PrAll.ex (e : Ex F F') {vs : List V} {r : List (List Int)} (h : F2 (Pr F) vs r) : F2 (Pr F') vs r := F2.mono (fun _ _ => Pr.ex e) h
theorem TrAll.dp {vs : List V} {r : List (List Int)} (h : TrAll F vs r) : DpAll K F vs (r.map ti) := F2.dp (enc := ti) (fun _ _ h => Tr.dp h) h
end
/-- the promise: a new list of tracked tuples -/
def sp_productsT : Sp := fun vs H Q _ => ∃ (n : Nat) (d : Int) (F : Hp), vs = [.int (n : Int), .int d] ∧ Ex F H ∧ n ≤ 6 ∧ 0 ≤ d ∧ d ≤ 6 ∧
  ∀ p xs F' H', H p = none → Gr NoS F H F' H' → F' p = none → H' p = some (.lst xs) → TrAll F' xs (prods n d) → Q (.ref p) H'
end CB

set_option Elab.async false
set_option linter.all false
set_option maxRecDepth 100000
set_option maxHeartbeats 2000000
namespace CB
open PySem PySem.Spec PyProof.Rows L2
/-! ### products: which they are, each once -/
theorem snoc_inj {p q : List Int} {x y : Int} (h : p ++ [x] = q ++ [y]) : p = q ∧ x = y := by
  have := List.append_inj' h rfl
  exact ⟨this.1, by simpa using this.2⟩
theorem raw_nodup (d : Int) : ∀ n : Nat, (raw d n).Nodup
  | 0 => by
    show [([] : List Int)].Nodup
    simp
  | n + 1 => by
    show ((raw d n).flatMap (ext d)).Nodup
    unfold List.Nodup
    rw [List.pairwise_flatMap]
    refine ⟨fun p _ => ?_, (raw_nodup d n).imp fun {p q} hne x hx y hy e => ?_⟩
    · unfold ext
      rw [List.pairwise_map]
      exact List.nodup_range.imp fun {a b} hab e => hab (by have := (snoc_inj e).2; omega)
    · obtain ⟨a, rfl, _⟩ := ext_mem hx
      obtain ⟨b, rfl, _⟩ := ext_mem hy
      exact hne (snoc_inj e).1
theorem raw_of {d : Int} : ∀ (n : Nat) (p : List Int), p.length = n → (∀ x ∈ p, 0 ≤ x) → p.sum ≤ d → p ∈ raw d n
  | 0, p, hl, _, _ => by
    have : p = [] := List.length_eq_zero_iff.mp hl
    subst this
    exact List.mem_singleton.mpr rfl
  | n + 1, p, hl, hx, hs => by
    have hne : p ≠ [] := fun e => by rw [e] at hl; simp at hl
    have e : p = p.dropLast ++ [p.getLast hne] := (List.dropLast_concat_getLast hne).symm
    have hlast : 0 ≤ p.getLast hne := hx _ (List.getLast_mem hne)
    have hsum : p.sum = p.dropLast.sum + p.getLast hne := by
      conv => lhs; rw [e]
      exact sum_snoc _ _
    have hq := raw_of (d := d) n p.dropLast (by rw [List.length_dropLast, hl]; rfl) (fun x h => hx x (List.dropLast_subset _ h)) (by omega)
    show p ∈ (raw d n).flatMap (ext d)
    refine List.mem_flatMap.mpr ⟨p.dropLast, hq, ?_⟩
    unfold ext
    refine List.mem_map.mpr ⟨(p.getLast hne).toNat, List.mem_range.mpr (by omega), ?_⟩
    rw [Int.toNat_of_nonneg hlast]
    exact e.symm
theorem prods_nodup (n : Nat) (d : Int) : (prods n d).Nodup := (List.mergeSort_perm _ _).nodup_iff.mpr (raw_nodup d n)
theorem prods_of {n : Nat} {d : Int} {p : List Int} (hl : p.length = n) (hx : ∀ x ∈ p, 0 ≤ x) (hs : p.sum ≤ d) : p ∈ prods n d := prods_mem.mpr (raw_of n p hl hx hs)
section
variable {s n : Nat} {d : Int} {p o : List Int}
theorem sum_split (p : List Int) (s : Nat) : p.sum = (p.take s).sum + (p.drop s).sum := by
  conv => lhs; rw [← List.take_append_drop s p]
  exact List.sum_append
theorem take_prods (hd : 0 ≤ d) (hs : s ≤ n) (h : p ∈ prods n d) : p.take s ∈ prods s d := by
  obtain ⟨h1, h2, h3, h4⟩ := prods_ok hd h
  refine prods_of (by rw [List.length_take]; omega) (fun x hx => h4 x (List.mem_of_mem_take hx)) ?_
  have e := sum_split p s
  have := sum_nonneg (p := p.drop s) fun x hx => h4 x (List.mem_of_mem_drop hx)
  omega
theorem join_prods (hd : 0 ≤ d) (hs : s ≤ n) (h : p ∈ prods n d) (ho : o ∈ prods s d) (hle : o.sum ≤ (p.take s).sum) : o ++ p.drop s ∈ prods n d := by
  obtain ⟨h1, h2, h3, h4⟩ := prods_ok hd h
  obtain ⟨o1, o2, o3, o4⟩ := prods_ok hd ho
  refine prods_of (by rw [List.length_append, List.length_drop]; omega) (fun x hx => ?_) ?_
  · rcases List.mem_append.mp hx with hx | hx
    · exact o4 x hx
    · exact h4 x (List.mem_of_mem_drop hx)
  · rw [List.sum_append]
    have e := sum_split p s
    omega
end
/-! ### dicts by tuples of numbers -/
def ky (p : List Int) : List Key := p.map Sum.inl
theorem ky_v (p : List Int) : (ky p).map kV = p.map V.int := by
  unfold ky
  rw [List.map_map]
  rfl
theorem ky_inj {p q : List Int} (h : ky p = ky q) : p = q := by
  unfold ky at h
  exact (List.map_inj_right fun _ _ e => Sum.inl.inj e).mp h
theorem ky_iff {p q : List Int} : ky p = ky q ↔ p = q := ⟨ky_inj, fun e => by rw [e]⟩
/-- the places of things -/
structure IsPl (P : List (List Int)) (kvs : List (List Key × V)) : Prop where
  len : kvs.length = P.length
  at_ : ∀ (i : Nat) (p : List Int), P[i]? = some p → valV kvs (ky p) = some (.int (i : Int))
  no : ∀ p : List Int, p ∉ P → valV kvs (ky p) = none
theorem IsPl.nil : IsPl [] [] := ⟨rfl, fun i p e => by simp at e, fun p _ => rfl⟩
theorem nodup_take {P : List (List Int)} (hn : P.Nodup) {j : Nat} {p : List Int} (e : P[j]? = some p) : p ∉ P.take j := fun h => by
  obtain ⟨i, hi, e2⟩ := List.mem_iff_getElem.mp h
  rw [List.length_take] at hi
  have hj := (List.getElem?_eq_some_iff.mp e).1
  have e3 : P[i]? = some p := by
    rw [List.getElem_take] at e2
    rw [List.getElem?_eq_getElem (by omega), e2]
  have := (List.getElem?_inj (by omega : i < P.length) hn).mp (e3.trans e.symm)
  omega
theorem IsPl.snoc {P : List (List Int)} {kvs : List (List Key × V)} {j : Nat} {p : List Int} (h : IsPl (P.take j) kvs) (hn : P.Nodup) (e : P[j]? = some p) : IsPl (P.take (j + 1)) (putK kvs (ky p) (.int (kvs.length : Int))) := by
  have hp := nodup_take hn e
  have hj := (List.getElem?_eq_some_iff.mp e).1
  have hlj : (P.take j).length = j := by rw [List.length_take]; omega
  have et : P.take (j + 1) = P.take j ++ [p] := by rw [List.take_add_one, e]; rfl
  have hno := h.no p hp
  refine ⟨?_, fun i q eq => ?_, fun q hq => ?_⟩
  · rw [putK_new _ hno, List.length_append, h.len, et, List.length_append]
    rfl
  · rw [valV_put]
    rw [et] at eq
    by_cases hi : i < j
    · rw [List.getElem?_append_left (by omega)] at eq
      have hne : q ≠ p := fun e2 => hp (by rw [← e2]; exact List.mem_of_getElem? eq)
      rw [if_neg (fun e3 => hne (ky_inj e3))]
      exact h.at_ i q eq
    · rw [List.getElem?_append_right (by omega)] at eq
      have hi2 : i = j := by
        have := (List.getElem?_eq_some_iff.mp eq).1
        simp at this
        omega
      subst hi2
      rw [hlj, Nat.sub_self] at eq
      have : p = q := by simpa using eq
      subst this
      rw [if_pos rfl, h.len, hlj]
  · rw [et] at hq
    have h1 : q ∉ P.take j := fun h2 => hq (List.mem_append_left _ h2)
    have h2 : q ≠ p := fun h3 => hq (List.mem_append_right _ (by rw [h3]; exact List.mem_singleton.mpr rfl))
    rw [valV_put, if_neg (fun e3 => h2 (ky_inj e3))]
    exact h.no q h1
/-! ### maps of calls -/
section
variable (s n : Nat) (d : Int)
/-- what stands at q in the row of p, when the first t inner products are through -/
def cEnt (p : List Int) (Mr : List Int) (t : Nat) (q : List Int) : Int := if q.drop s = p.drop s ∧ (prods s d).idxOf (q.take s) < t then Mr.getD ((prods s d).idxOf (q.take s)) 0 else 0
def cRow (p : List Int) (Mr : List Int) (t : Nat) : List Int := (prods n d).map (cEnt s d p Mr t)
def cMap (M : List (List Int)) : List (List Int) := (prods n d).map fun p => cRow s n d p (M.getD ((prods s d).idxOf (p.take s)) []) (prods s d).length
end
section
variable {s n t : Nat} {d : Int} {p q o Mr : List Int} {x : Int}
theorem idx_of {P : List (List Int)} (hn : P.Nodup) {i : Nat} {p : List Int} (e : P[i]? = some p) : P.idxOf p = i := by
  obtain ⟨hi, rfl⟩ := List.getElem?_eq_some_iff.mp e
  exact hn.idxOf_getElem i hi
theorem at_idx {P : List (List Int)} {p : List Int} (h : p ∈ P) : P[P.idxOf p]? = some p := by
  rw [List.getElem?_eq_getElem (List.idxOf_lt_length_of_mem h), List.getElem_idxOf (List.idxOf_lt_length_of_mem h)]
theorem cEnt_same (hq : q ∈ prods n d) (hd : 0 ≤ d) (hs : s ≤ n) (eo : (prods s d)[t]? = some o) (hne : q ≠ o ++ p.drop s) : cEnt s d p Mr (t + 1) q = cEnt s d p Mr t q := by
  unfold cEnt
  by_cases h1 : q.drop s = p.drop s
  · by_cases h2 : (prods s d).idxOf (q.take s) < t
    · rw [if_pos ⟨h1, by omega⟩, if_pos ⟨h1, h2⟩]
    · rw [if_neg (show ¬ (q.drop s = p.drop s ∧ (prods s d).idxOf (q.take s) < t) from fun h => h2 h.2), if_neg]
      rintro ⟨_, h3⟩
      have h4 : (prods s d).idxOf (q.take s) = t := by omega
      have h5 := at_idx (take_prods hd hs hq)
      rw [h4, eo] at h5
      cases h5
      exact hne (by rw [← h1, List.take_append_drop])
  · rw [if_neg (fun h => h1 h.1), if_neg (fun h => h1 h.1)]
theorem cEnt_new (hd : 0 ≤ d) (eo : (prods s d)[t]? = some o) (ex : Mr[t]? = some x) (e : q = o ++ p.drop s) : cEnt s d p Mr (t + 1) q = x := by
  have ho := prods_ok hd (List.mem_of_getElem? eo)
  have e1 : q.take s = o := by rw [e, ← ho.1, List.take_left]
  have e2 : q.drop s = p.drop s := by rw [e]; exact List.drop_left' ho.1
  have hi := idx_of (prods_nodup s d) eo
  unfold cEnt
  rw [e1, hi, if_pos ⟨e2, by omega⟩, getD_of ex]
theorem cRow_zero : cRow s n d p Mr 0 = List.replicate (prods n d).length 0 := by
  unfold cRow
  have : (prods n d).map (cEnt s d p Mr 0) = (prods n d).map fun _ => (0 : Int) := List.map_congr_left fun q _ => if_neg (fun h => by omega)
  rw [this, List.map_const']
theorem cRow_len : (cRow s n d p Mr t).length = (prods n d).length := List.length_map _
/-- a number that is 0 changes nothing -/
theorem cRow_skip (hd : 0 ≤ d) (hs : s ≤ n) (eo : (prods s d)[t]? = some o) (ex : Mr[t]? = some 0) : cRow s n d p Mr (t + 1) = cRow s n d p Mr t := by
  refine List.map_congr_left fun q hq => ?_
  by_cases e : q = o ++ p.drop s
  · rw [cEnt_new hd eo ex e]
    have ho := prods_ok hd (List.mem_of_getElem? eo)
    have e1 : q.take s = o := by rw [e, ← ho.1, List.take_left]
    have hi := idx_of (prods_nodup s d) eo
    unfold cEnt
    rw [e1, hi, if_neg (fun h => by omega)]
  · exact cEnt_same hq hd hs eo e
theorem cRow_set {k : Nat} (hd : 0 ≤ d) (hs : s ≤ n) (eo : (prods s d)[t]? = some o) (ex : Mr[t]? = some x) (ek : (prods n d)[k]? = some (o ++ p.drop s)) : (cRow s n d p Mr t).set k x = cRow s n d p Mr (t + 1) := by
  apply List.ext_getElem?
  intro j
  by_cases hj : j < (prods n d).length
  · have eq : (prods n d)[j]? = some (prods n d)[j] := List.getElem?_eq_getElem hj
    have r : (cRow s n d p Mr (t + 1))[j]? = some (cEnt s d p Mr (t + 1) (prods n d)[j]) := by
      unfold cRow
      rw [List.getElem?_map, eq]
      rfl
    rw [r]
    by_cases e : k = j
    · subst e
      rw [List.getElem?_set_self (by rw [cRow_len]; exact hj)]
      rw [eq] at ek
      rw [cEnt_new hd eo ex (Option.some.inj ek)]
    · rw [List.getElem?_set_ne e]
      unfold cRow
      rw [List.getElem?_map, eq]
      show some (cEnt s d p Mr t (prods n d)[j]) = _
      rw [cEnt_same (List.getElem_mem hj) hd hs eo]
      intro e2
      rw [← e2] at ek
      exact e ((List.getElem?_inj hj (prods_nodup n d)).mp (eq.trans ek.symm)).symm
  · rw [List.getElem?_eq_none (by rw [List.length_set, cRow_len]; omega), List.getElem?_eq_none (by rw [cRow_len]; omega)]
theorem cMap_same (hd : 0 ≤ d) (hs : s ≤ n) : cMap s n d (sm (prods s d).length) = sm (prods n d).length := by
  apply List.ext_getElem?
  intro k
  by_cases hk : k < (prods n d).length
  · have ek : (prods n d)[k]? = some (prods n d)[k] := List.getElem?_eq_getElem hk
    have hpk := List.getElem_mem hk
    unfold cMap
    have esm : (sm (prods n d).length)[k]? = some (sg (prods n d).length k) := by
      unfold sm
      rw [List.getElem?_map, List.getElem?_range hk]
      rfl
    rw [List.getElem?_map, ek, esm]
    show some (cRow s n d _ _ _) = _
    congr 1
    have hi := List.idxOf_lt_length_of_mem (take_prods hd hs hpk)
    rw [sm_row hi]
    apply List.ext_getElem?
    intro j
    by_cases hj : j < (prods n d).length
    · have ej : (prods n d)[j]? = some (prods n d)[j] := List.getElem?_eq_getElem hj
      have hqj := List.getElem_mem hj
      have hi2 := List.idxOf_lt_length_of_mem (take_prods hd hs hqj)
      unfold cRow
      rw [List.getElem?_map, ej]
      unfold sg
      rw [List.getElem?_map, List.getElem?_range hj]
      show some (cEnt s d _ (sg (prods s d).length _) _ _) = some _
      congr 1
      show _ = if j = k then (1 : Int) else 0
      unfold cEnt
      by_cases e : j = k
      · subst e
        rw [if_pos ⟨rfl, hi⟩, sg_get hi, if_pos rfl, if_pos rfl]
      · rw [if_neg e]
        by_cases h1 : (prods n d)[j].drop s = (prods n d)[k].drop s
        · rw [if_pos ⟨h1, hi2⟩, sg_get hi2, if_neg]
          intro h2
          apply e
          have h3 := at_idx (take_prods hd hs hqj)
          have h4 := at_idx (take_prods hd hs hpk)
          rw [h2, h4] at h3
          have h5 : (prods n d)[k].take s = (prods n d)[j].take s := Option.some.inj h3
          have h6 : (prods n d)[j] = (prods n d)[k] := by
            rw [← List.take_append_drop s (prods n d)[j], ← List.take_append_drop s (prods n d)[k], h1, h5]
          exact (List.getElem?_inj hj (prods_nodup n d)).mp (by rw [ej, ek, h6])
        · rw [if_neg (fun h => h1 h.1)]
    · rw [List.getElem?_eq_none (by rw [cRow_len]; omega), List.getElem?_eq_none (by rw [sg_len]; omega)]
  · rw [List.getElem?_eq_none (by unfold cMap; rw [List.length_map]; omega), List.getElem?_eq_none (by rw [sm_len]; omega)]
end
/-- the map is of no greater degree -/
def Deg (s : Nat) (d : Int) (M : List (List Int)) : Prop := ∀ (i j : Nat) (pi pj row : List Int) (x : Int), (prods s d)[i]? = some pi → (prods s d)[j]? = some pj → M[i]? = some row → row[j]? = some x → x ≠ 0 → pj.sum ≤ pi.sum
theorem deg_sm (s : Nat) (d : Int) : Deg s d (sm (prods s d).length) := fun i j pi pj row x ei ej er ex nx => by
  have hi := (List.getElem?_eq_some_iff.mp ei).1
  have hj := (List.getElem?_eq_some_iff.mp ej).1
  have e1 : row = sg (prods s d).length i := by
    unfold sm at er
    rw [List.getElem?_map, List.getElem?_range hi] at er
    exact (Option.some.inj er).symm
  subst e1
  have e2 : x = if j = i then 1 else 0 := by
    have := sg_get (k := i) hj
    rwa [getD_of ex] at this
  by_cases e : j = i
  · subst e
    rw [ei] at ej
    cases ej
    exact Int.le_refl _
  · rw [if_neg e] at e2
    exact absurd e2 nx
def sp_places : Sp := fun vs H Q _ => ∃ (n : Nat) (d : Int) (F : Hp), vs = [.int (n : Int), .int d] ∧ Ex F H ∧ n ≤ 6 ∧ 0 ≤ d ∧ d ≤ 6 ∧
  ∀ a kvs F' H', H a = none → Gr NoS F H F' H' → F' a = none → H' a = some (.dT kvs) → IsPl (prods n d) kvs → Q (.ref a) H'
def sp_call_map (K : PySem.W.Frag) : Sp := fun vs H Q _ => ∃ (s n : Nat) (d : Int) (v : V) (M : List (List Int)) (F : Hp), vs = [.int (s : Int), .int (n : Int), .int d, v] ∧ Ex F H ∧ s ≤ n ∧ n ≤ 6 ∧ 0 ≤ d ∧ d ≤ 6 ∧ (prods s d).length ≤ 1000 ∧ (prods n d).length ≤ 1000 ∧
  Dp K F v (tti M) ∧ M.length = (prods s d).length ∧ Wid (prods s d).length M ∧ Deg s d M ∧ RetD K F H Q (tti (cMap s n d M))
end CB

set_option Elab.async false
set_option linter.all false
set_option maxRecDepth 100000
set_option maxHeartbeats 2000000
namespace CB
open PySem PySem.Spec PyProof.Rows L2
/-- what is done with a tracked tuple -/
def RetT (F H : Hp) (Q : VK) (q : List Int) : Prop := ∀ b F' H', Gr NoS F H F' H' → F' b = some (.tup (q.map V.int)) → Q (.ref b) H'
section
variable {K : PySem.W.Frag} {F H : Hp} {a b : Addr} {p r : List Int} {Q : VK}
theorem cat_T (hF : Ex F H) (ha : F a = some (.tup (p.map V.int))) (hb : F b = some (.tup (r.map V.int))) (hl : p.length + r.length ≤ 1000) (q : RetT F H Q (p ++ r)) : rCatA K (.ref a) (.ref b) H Q := by
  refine ⟨a, b, _, _, rfl, rfl, SqT.of (hF _ _ ha), SqT.of (hF _ _ hb), ?_, fun e => ?_, fun _ e => ?_, fun _ _ t nt => ?_⟩
  · rw [List.length_map, List.length_map]
    exact Nat.le_of_lt (small1000 hl)
  · have : p = [] := List.map_eq_nil_iff.mp e
    subst this
    exact q b F H (Gr.refl hF) hb
  · have : r = [] := List.map_eq_nil_iff.mp e
    subst this
    rw [List.append_nil] at q
    exact q a F H (Gr.refl hF) ha
  · exact q t _ _ ((Gr.refl hF).new nt) (by rw [upd_same, List.map_append])
theorem slice_T {lo hi : Option Int} {c : List Int} (hF : Ex F H) (ha : F a = some (.tup (p.map V.int))) (hc : cutV (p.map V.int) lo hi = c.map V.int) (q : RetT F H Q c) : rSlA K (.ref a) lo hi H Q := by
  refine ⟨a, _, rfl, SqT.of (hF _ _ ha), fun e => ?_, fun _ t nt => q t _ _ ((Gr.refl hF).new nt) (by rw [upd_same, hc])⟩
  refine q a F H (Gr.refl hF) ?_
  have : cutV (p.map V.int) lo hi = p.map V.int := by
    unfold cutV
    rw [e.1, e.2, List.drop_zero, Nat.sub_zero, List.take_length]
  rw [ha, ← hc, this]
end
theorem cut_take (p : List Int) {s : Nat} (h : s ≤ p.length) : cutV (p.map V.int) none (some (s : Int)) = (p.take s).map V.int := by
  unfold cutV
  rw [HT.sIx_none, HT.sIx_nat, List.drop_zero, List.length_map, Nat.min_eq_left h, Nat.sub_zero, List.map_take]
theorem cut_drop (p : List Int) {s : Nat} (h : s ≤ p.length) : cutV (p.map V.int) (some (s : Int)) none = (p.drop s).map V.int := by
  unfold cutV
  rw [HT.sIx_none, HT.sIx_nat, List.length_map, Nat.min_eq_left h, List.map_drop]
  exact List.take_of_length_le (by rw [List.length_drop, List.length_map]; exact Nat.le_refl _)
theorem get_T {H : Hp} {a b : Addr} {kvs : List (List Key × V)} {p : List Int} (e : H a = some (.dT kvs)) (eb : H b = some (.tup (p.map V.int))) : DGet H a (.ref b) (valV kvs (ky p)) := DGet.t e (by rw [ky_v]; exact eb)
theorem put_T {H : Hp} {a b : Addr} {kvs : List (List Key × V)} {p : List Int} {v : V} (e : H a = some (.dT kvs)) (eb : H b = some (.tup (p.map V.int))) (hl : kvs.length < sizeLine) : DPut H a (.ref b) v (upd H a (.dT (putK kvs (ky p) v))) := DPut.t e (by rw [ky_v]; exact eb) hl
theorem ixN_nat {n j : Nat} (h : j < n) : ixN n (j : Int) = some j := by
  unfold ixN
  rw [if_pos (by omega), if_pos (by omega), Int.toNat_natCast]
theorem putK_le (c : List (List Key × V)) (k : List Key) (x : V) : (putK c k x).length ≤ c.length + 1 := by
  unfold putK
  split
  · rw [List.length_map]; omega
  · rw [List.length_append]; exact Nat.le_refl _
theorem eqv_ints : ∀ {p q : List Int}, PyData.eqvAll (p.map PyData.int) (q.map PyData.int) = true → p = q
  | [], [], _ => rfl
  | [], _ :: _, h => by simp [PyData.eqvAll] at h
  | _ :: _, [], h => by simp [PyData.eqvAll] at h
  | x :: p, y :: q, h => by
    rw [List.map_cons, List.map_cons, PyData.eqvAll, Bool.and_eq_true] at h
    have h1 : x = y := by simpa [PyData.eqv] using h.1
    rw [h1, eqv_ints h.2]
theorem eqv_ti {p q : List Int} (h : PyData.eqv (ti p) (ti q) = true) : p = q := by
  rw [PyData.eqv] at h
  exact eqv_ints h
end CB

set_option Elab.async false
set_option linter.all false
set_option maxRecDepth 100000
set_option maxHeartbeats 2000000
namespace CB
open PySem PySem.Spec PyProof.Rows L2
/-! ### programs, and how they are told -/
inductive Deed
  | call (k : Nat)
  | rest
  | any (b : Nat)
  | set (b : Nat) (s : List Int)
structure Part where
  name : Str
  own : List Str
  rows : List (Deed × List Int)
structure Prog where
  shared : List Str
  parts : List Part
def dDeed : Deed → PyData
  | .call k => .tuple [.str "call", .int (k : Int)]
  | .rest => .tuple [.str "rest"]
  | .any b => .tuple [.str "any", .int (b : Int)]
  | .set b s => .tuple [.str "set", .int (b : Int), ti s]
abbrev ts (l : List Str) : PyData := .tuple (l.map PyData.str)
def dRow (r : Deed × List Int) : PyData := .tuple [dDeed r.1, ti r.2]
def dPart (p : Part) : PyData := .tuple [.str p.name, ts p.own, .tuple (p.rows.map dRow)]
def dProg (p : Prog) : PyData := .tuple [ts p.shared, .tuple (p.parts.map dPart)]
/-- what the drawing promises of a deed: so many boxes, so many parts -/
def OkDeed (n parts : Nat) : Deed → Prop
  | .call k => k < parts
  | .rest => True
  | .any b => b < n
  | .set b s => b < n ∧ s.length = n + 1 ∧ ∀ x ∈ s, -9 ≤ x ∧ x ≤ 9
/-- of goings: one to three, rising, none beyond the rows -/
def OkGo (many : Nat) (g : List Int) : Prop := 1 ≤ g.length ∧ g.length ≤ 3 ∧ g.Pairwise (· < ·) ∧ ∀ x ∈ g, 0 ≤ x ∧ x ≤ many
/-- of rows: one to most, each of them such -/
def OkRows (n parts most : Nat) (rows : List (Deed × List Int)) : Prop := 1 ≤ rows.length ∧ rows.length ≤ most ∧ ∀ r ∈ rows, OkDeed n parts r.1 ∧ OkGo rows.length r.2
def sp_small : Sp := fun vs H Q _ => ∃ (d l : Addr), vs = [.ref d] ∧ IsDeal H d l ∧ ∀ (x : Int) (H' : Hp), -9 ≤ x → x ≤ 9 → IsDeal H' d l → Kp d l H H' → Q (.int x) H'
/-! ### the deal goes on beside a frozen part that grows -/
structure Go (d l : Addr) (F H F' H' : Hp) : Prop where
  w : Wr d l F' H'
  nf : Nf F H F'
  kp : Kp d l H H'
/-- an object of ours, still to be changed -/
structure Own (d l : Addr) (F H : Hp) (p : Addr) (o : HO) : Prop where
  f : F p = none
  h : H p = some o
  nd : p ≠ d
  nl : p ≠ l
section
variable {d l p z : Addr} {F H F1 H1 F2 H2 : Hp} {o u : HO}
theorem Go.refl (W : Wr d l F H) : Go d l F H F H := ⟨W, Nf.refl, Kp.refl⟩
theorem Go.trans (a : Go d l F H F1 H1) (b : Go d l F1 H1 F2 H2) : Go d l F H F2 H2 := ⟨b.w, a.nf.trans a.w a.kp b.nf, a.kp.trans b.kp⟩
theorem Go.draw (a : Go d l F H F1 H1) (D : IsDeal H2 d l) (k : Kp d l H1 H2) : Go d l F H F1 H2 := ⟨a.w.draw D k, a.nf, a.kp.trans k⟩
theorem Go.gr (a : Go d l F H F1 H1) (g : Gr NoS F1 H1 F2 H2) : Go d l F H F2 H2 := ⟨a.w.gr g, a.nf.gr a.w a.kp g, a.kp.trans g.toKp⟩
theorem Go.new (a : Go d l F H F1 H1) (hp : H1 p = none) : Go d l F H (upd F1 p o) (upd H1 p o) := ⟨a.w.new hp, a.nf.new a.w a.kp hp, a.kp.trans (Kp.of_ex (Evl.Ex.new hp))⟩
theorem Go.newm (a : Go d l F H F1 H1) (hp : H1 p = none) : Go d l F H F1 (upd H1 p o) := ⟨a.w.newm hp, a.nf, a.kp.trans (Kp.of_ex (Evl.Ex.new hp))⟩
theorem Go.mut (a : Go d l F H F1 H1) (h : H p = none) (m : Own d l F1 H1 p u) : Go d l F H F1 (upd H1 p o) := ⟨a.w.mut m.f m.nd m.nl, a.nf, a.kp.mut h⟩
theorem Go.sub (a : Go d l F H F1 H1) : Ex F1 H1 := a.w.sub
theorem Go.fz (a : Go d l F H F1 H1) : Ex F F1 := a.nf.ex
theorem Go.deal (a : Go d l F H F1 H1) : IsDeal H1 d l := a.w.deal
theorem Go.ex (a : Go d l F H F1 H1) : Ex F H1 := a.nf.ex.trans a.w.sub
theorem Own.new (W : Wr d l F H) (hp : H p = none) : Own d l F (upd H p o) p o := ⟨sub_none W.sub hp, upd_same, (W.ne hp).1, (W.ne hp).2⟩
theorem Own.go (m : Own d l F H p o) (a : Go d l F H F1 H1) : Own d l F1 H1 p o := ⟨a.nf.nf p m.f (by rw [m.h]; exact fun e => by cases e), a.kp p o m.nd m.nl m.h, m.nd, m.nl⟩
theorem Own.gr (m : Own d l F H p o) (g : Gr NoS F H F1 H1) : Own d l F1 H1 p o := ⟨(g.keepm (fun h => h) m.f m.h).1, (g.keepm (fun h => h) m.f m.h).2, m.nd, m.nl⟩
theorem Own.ne (m : Own d l F H p o) (hz : H z = none) : p ≠ z := ne_of_none m.h hz
theorem Own.fresh (m : Own d l F H p o) (hz : H z = none) : Own d l (upd F z u) (upd H z u) p o := ⟨by rw [upd_ne (m.ne hz)]; exact m.f, by rw [upd_ne (m.ne hz)]; exact m.h, m.nd, m.nl⟩
theorem Own.freshm (m : Own d l F H p o) (hz : H z = none) : Own d l F (upd H z u) p o := ⟨m.f, by rw [upd_ne (m.ne hz)]; exact m.h, m.nd, m.nl⟩
theorem Own.put (m : Own d l F H p o) : Own d l F (upd H p u) p u := ⟨m.f, upd_same, m.nd, m.nl⟩
theorem Own.other (m : Own d l F H p o) (h : p ≠ z) : Own d l F (upd H z u) p o := ⟨m.f, by rw [upd_ne h]; exact m.h, m.nd, m.nl⟩
theorem Own.draw (m : Own d l F H p o) (k : Kp d l H H1) : Own d l F H1 p o := ⟨m.f, k p o m.nd m.nl m.h, m.nd, m.nl⟩
theorem Own.L {K : PySem.W.Frag} {xs : List V} (m : Own d l F H p (.lst xs)) : SqL K H p xs := SqL.of m.h
theorem Go.none (a : Go d l F H F1 H1) (W : Wr d l F H) (hz : H1 z = none) : H z = none := by
  obtain ⟨n1, n2⟩ := a.w.ne hz
  exact a.kp.none n1 n2 hz
end
def sp_sum (K : PySem.W.Frag) : Sp := fun vs H Q _ => ∃ (d l : Addr) (n : Nat) (F : Hp), vs = [.ref d, .int (n : Int)] ∧ Wr d l F H ∧ n ≤ 100 ∧
  ∀ v F' H' s, Go d l F H F' H' → Dp K F' v (ti s) → s.length = n + 1 → (∀ x ∈ s, -9 ≤ x ∧ x ≤ 9) → Q v H'
def sp_goings (K : PySem.W.Frag) : Sp := fun vs H Q _ => ∃ (d l : Addr) (at_ many : Nat) (F : Hp), vs = [.ref d, .int (at_ : Int), .int (many : Int)] ∧ Wr d l F H ∧ at_ < many ∧ many ≤ 100 ∧
  ∀ v F' H' g, Go d l F H F' H' → Dp K F' v (ti g) → OkGo many g → Q v H'
def sp_deed (K : PySem.W.Frag) : Sp := fun vs H Q _ => ∃ (d l : Addr) (n parts : Nat) (F : Hp), vs = [.ref d, .int (n : Int), .int (parts : Int)] ∧ Wr d l F H ∧ n ≤ 100 ∧ parts ≤ 100 ∧
  ∀ v F' H' e, Go d l F H F' H' → Dp K F' v (dDeed e) → OkDeed n parts e → Q v H'
def sp_part (K : PySem.W.Frag) : Sp := fun vs H Q _ => ∃ (d l : Addr) (name : Str) (sh parts most : Nat) (own : List Str) (vo : V) (F : Hp), vs = [.ref d, .str name, .int (sh : Int), vo, .int (parts : Int), .int (most : Int)] ∧ Wr d l F H ∧ Dp K F vo (ts own) ∧ own.length ≤ 10 ∧ sh ≤ 10 ∧ parts ≤ 10 ∧ 1 ≤ most ∧ most ≤ 10 ∧
  ∀ v F' H' rows, Go d l F H F' H' → Dp K F' v (dPart ⟨name, own, rows⟩) → OkRows (sh + own.length) parts most rows → Q v H'
/-- names: letters alone, one to eight of them -/
def Low (c : UInt32) : Prop := 97 ≤ c.toNat ∧ c.toNat ≤ 122
end CB

set_option Elab.async false
set_option linter.all false
set_option maxRecDepth 100000
set_option maxHeartbeats 4000000
/-! set(a list of ints) -/
namespace CB
open PySem PySem.Spec PyProof.Rows L2
abbrev nS (w : World) : Obj := { cls := .type "set", dict := none, data := .set #[] 0 (.fresh 0 0 (!w.params.followText "set-order")) }
section
variable {P : Program} {w : World} {A : Around} {E : Value → Shared → Prop} {s : Shared}
set_option maxHeartbeats 6400000 in
theorem set_of_listI {l : Addr} {items : Array Value} (ns : List Int) {Q : Value → Shared → Prop} (hh : A.handled = none) (hl : s.heap.IsList l items) (hit : IntsAre items.toList ns) (hb : ns.length + 1 < scanBound)
    (h : ∀ (h' : Heap) (tk c : Nat), SetR w h' s.heap.objs.size (fun j => decide (j ∈ ns)) c → c ≤ ns.length → (∀ b o, s.heap.get? b = some o → h'.get? b = some o) → Q (.ref s.heap.objs.size) { s with heap := h', toks := tk }) :
    wpAny (model P w) A (call (.type "set") [.ref l]) Q E s := by
  have hisz : items.size = ns.length := by rw [← Array.length_toList]; exact IntsAre.length hit
  obtain ⟨c, tl, hmro⟩ := F.called_set.mro
  have hmade := F.called_set.made; have hsub := F.called_set.sub
  refine wpAny_call (codeAny_of_tree ?_)
  show wpAny _ _ (callAny (.type "set") _) _ _ _
  refine wpAny_pure ⟨Code.quiet_builtin _ (by decide +kernel), codeAny_builtin F.entry_type_call ?_⟩
  rw [Around.under_plain (weight_type_call_type "set" [.ref l] []) rfl]
  have h1 := F.called_set.notType; have h2 := F.called_set.canCreate; have hct := F.typeCall_set_1 (.ref l)
  repeat (any_goals (first | assumption | wp_step))
  refine codeAny_mono (code_set_led1 (.ref l) (E := E) (Q₁ := fun obj s₁ => obj = .ref s.heap.objs.size ∧ s₁ = { s with heap := s.heap.push (nS w) }) ⟨rfl, rfl⟩) fun r s₁ hr => ?_
  cases r with
  | error e => exact hr
  | ok fl =>
    cases fl with
    | ret obj =>
      obtain ⟨rfl, rfl⟩ := hr
      have hS : (s.heap.push (nS w)).get? s.heap.objs.size = some (nS w) := Heap.get?_push_size _ rfl
      have hT : Shared.TypeIs { s with heap := s.heap.push (nS w) } (.ref s.heap.objs.size) "set" := ⟨_, hS, rfl⟩
      have hli := F.called_set.init.lookup; have hbi := F.called_set.init.bind (.ref s.heap.objs.size)
      repeat (any_goals (first | assumption | wp_step))
      refine codeAny_mono (codeAny_call_builtin (R := wants (fun r s₂ => r = .none ∧ ∃ h' tk c, s₂ = { s with heap := h', toks := tk } ∧ SetR w h' s.heap.objs.size (fun j => decide (j ∈ ns)) c ∧ c ≤ ns.length ∧ (∀ b o, s.heap.get? b = some o → h'.get? b = some o)) E) F.called_set.init.plain F.entry_set_init (check_set_init_1 hT ?_)) fun r₂ s₂ hr₂ => ?_
      · obtain ⟨⟨ocls, odict, odata, oslots⟩, hol, hcl, nl, hdl⟩ := hl
        simp only at hcl hdl
        subst hcl; subst hdl
        have hol' : (s.heap.push (nS w)).get? l = some { cls := .type "list", dict := odict, data := .seq items nl, slots := oslots } := Heap.get?_push_of_some _ hol
        have hsls := F.sub_list_set; have hslf := F.sub_list_frozenset
        have hne : (Value.type "list" == Value.type "dict") = false := by decide
        have hl1 : (s.heap.push (nS w)).IsList l items := ⟨_, hol', rfl, nl, rfl⟩
        unfold Builtin.«set.__init__» noKeywords Builtin.Frozenset.updateFrom
        generalize hPI : pyIter = PI
        wp_walk
        subst hPI
        refine wpAny_pyIter_list hl1 (wpAny_bind (wpAny_runValue ?_))
        have hlS : l < s.heap.objs.size := Heap.lt_size hol
        have hh3 : A.in1.in1.in1.handled = none := by simp [hh]
        have hneI : l ≠ (s.heap.push (nS w)).objs.size := by rw [Heap.size_push]; exact Nat.ne_of_lt (Nat.lt_succ_of_lt hlS)
        have hSf : s.heap.objs.size ∉ [(s.heap.push (nS w)).objs.size, l] := by
          rw [Heap.size_push]; simp only [List.mem_cons, List.mem_singleton, List.not_mem_nil, or_false, not_or]; exact ⟨Nat.ne_of_lt (Nat.lt_succ_self _), Nat.ne_of_gt hlS⟩
        have hval : ∀ (i : Nat) (v : Value), items[i]? = some v → ∃ k t, ns[i]? = some k ∧ v = .int k t := fun i v hv => by
          have hi : i < ns.length := by rw [← hisz]; exact (Array.getElem?_eq_some_iff.mp hv).1
          obtain ⟨t, e⟩ := PyProof.Rows.IntsAre.int_at hit i v (by rw [Array.getElem?_toList]; exact hv)
          exact ⟨ns[i], t, List.getElem?_eq_getElem hi, by rw [e, List.getD_eq_getElem?_getD, List.getElem?_eq_getElem hi] <;> rfl⟩
        refine set_update_ints ((Walks.list hh3 _ l hneI items).toS) s.heap.objs.size hSf ns hisz hb hval (items.size - 0) 0 _ (by omega) (Nat.zero_le _) ⟨⟨_, Heap.get?_push_size _ rfl, rfl, rfl⟩, (hl1.push _)⟩ ⟨0, Nat.le_refl 0, setR_new_at (Heap.get?_push_of_some _ hS)⟩ fun s' c' hm hc' hS' => ?_
        obtain ⟨h', g2, d', tk', os'⟩ := s'
        obtain rfl : g2 = s.gens := hm.gens
        obtain rfl : d' = s.drawn := hm.drawn
        obtain rfl : os' = s.os := hm.os
        show wpAny _ _ _ _ _ _
        refine wpAny_pure ?_
        show wpAny _ _ (ret Value.none) _ _ _
        rw [hisz] at hc'
        refine wpAny_pure ⟨rfl, h', tk', c', rfl, hS', hc', fun b o e => ?_⟩
        have hb0 : b < s.heap.objs.size := Heap.lt_size e
        have hb2 : b ≠ (s.heap.push (nS w)).objs.size := by rw [Heap.size_push]; exact Nat.ne_of_lt (Nat.lt_succ_of_lt hb0)
        exact hm.heap b o (by simp only [List.mem_cons, List.mem_singleton, List.not_mem_nil, or_false, not_or]; exact ⟨Nat.ne_of_lt hb0, hb2⟩) (Heap.get?_push_of_some _ (Heap.get?_push_of_some _ e))
      · cases r₂ with
        | error e => exact hr₂
        | ok fl₂ =>
          cases fl₂ with
          | ret r =>
            obtain ⟨rfl, h', tk, c', rfl, hS', hc', hk'⟩ := hr₂
            repeat (any_goals (first | assumption | wp_step))
            exact h _ _ _ hS' hc' hk'
          | _ => exact hr₂.elim
    | _ => exact hr.elim
end
section
variable {X : Cx} {K : PySem.W.Frag}
def rSetL (w : World) (K : PySem.W.Frag) : List V → Hp → VK → Prop := fun xs H Q => ∃ (l : Addr) (ns : List Int), xs = [.ref l] ∧ SqL K H l (ns.map V.int) ∧ ns.length ≤ 1000 ∧ ∀ p n, H p = none → n ≤ ns.length → Q (.ref p) (upd H p (SetO w p (fun j => decide (j ∈ ns)) n))
theorem cr_setL (hc : X.calm = true) (hK : X.K = K := by rfl) : CallR X (.type "set") (rSetL X.w K) := by
  subst hK
  intro pins s σ H xs us Q I r h
  obtain ⟨l, ns, rfl, hs, hn, q⟩ := h
  obtain ⟨its, rv, p', hz⟩ := I.list hs
  rw [Vals.ref1 r]
  have hi := rv.ints
  refine set_of_listI ns (I.ok.hd hc) p'.isList (by simpa using hi) (by have e : scanBound = scanBound := rfl; unfold scanBound at e ⊢; omega) fun h' tk c hR hcl hk => ?_
  exact ⟨.ref s.heap.objs.size, upd H s.heap.objs.size _, I.laid (t' := tk) (fun b u e => hk b u e) (Nat.le_refl _) (setO_new hR), rfl, q _ c (I.hok.fresh (Nat.le_refl _)) hcl⟩
end
end CB

set_option Elab.async false
set_option linter.all false
set_option maxRecDepth 100000
set_option maxHeartbeats 4000000
/-! words of letters -/
namespace CB
open PySem PySem.Spec PyProof.Rows L2
def wd (l : List Nat) : Str := ⟨l.toArray⟩
theorem wd_len (l : List Nat) : (wd l).length = l.length := List.size_toArray
theorem wd_inj {a b : List Nat} (h : wd a = wd b) : a = b := by
  have : (wd a).cps.toList = (wd b).cps.toList := by rw [h]
  simpa [wd] using this
theorem wd_cat (a b : List Nat) : wd a ++ wd b = wd (a ++ b) := by
  show Str.append _ _ = _
  unfold Str.append wd
  rw [List.append_toArray]
theorem wd_to (a : List Nat) : TL.tl (wd a) = a := rfl
theorem cut_hi (l : List Nat) {a : Int} (h0 : 0 ≤ a) (h1 : a ≤ l.length) : cutS (wd l) none (some a) = wd (l.take a.toNat) := by
  obtain ⟨n, rfl⟩ := Int.eq_ofNat_of_zero_le h0
  unfold cutS
  rw [HT.sIx_none, HT.sIx_nat, List.drop_zero, wd_len, Nat.sub_zero]
  have : min n l.length = n := Nat.min_eq_left (by omega)
  rw [this]
  rfl
theorem cut_lo (l : List Nat) {a : Int} (h0 : 0 ≤ a) (h1 : a ≤ l.length) : cutS (wd l) (some a) none = wd (l.drop a.toNat) := by
  obtain ⟨n, rfl⟩ := Int.eq_ofNat_of_zero_le h0
  unfold cutS
  rw [HT.sIx_none, HT.sIx_nat, wd_len]
  have : min n l.length = n := Nat.min_eq_left (by omega)
  rw [this]
  have e : ((wd l).cps.toList.drop n).take (l.length - n) = l.drop n := by
    show (l.drop n).take (l.length - n) = l.drop n
    exact List.take_of_length_le (by rw [List.length_drop]; exact Nat.le_refl _)
  rw [e]
  rfl
theorem join_wd (l : List Nat) : Txt.join ("" : Str) (l.map fun c => wd [c]) = wd l := by
  have key : ∀ l : List Nat, TL.joinL [] ((l.map fun c => wd [c]).map TL.tl) = l := by
    intro l
    induction l with
    | nil => rfl
    | cons c r ih =>
      cases r with
      | nil => rfl
      | cons z r =>
        have e : TL.joinL [] (((c :: z :: r).map fun c => wd [c]).map TL.tl) = c :: TL.joinL [] (((z :: r).map fun c => wd [c]).map TL.tl) := rfl
        rw [e, ih]
  have e : TL.tl (Txt.join ("" : Str) (l.map fun c => wd [c])) = l := by
    rw [TL.join_eq, TL.tl_join]
    exact key l
  have : ∀ z : Str, z = wd (TL.tl z) := fun z => rfl
  rw [this (Txt.join _ _), e]
theorem in_strs (z : Str) (ys : List Str) : inV (.str z) (ys.map V.str) = decide (z ∈ ys) := by
  unfold inV
  rw [List.any_map]
  rw [Bool.eq_iff_iff, List.any_eq_true, decide_eq_true_eq]
  constructor
  · rintro ⟨y, hy, e⟩
    have : y = z := by simpa [eqV] using e
    rw [← this]; exact hy
  · exact fun h => ⟨z, h, by simp [eqV]⟩
theorem flat_strs' (l : List Str) : (l.map V.str).all flatV = true := by
  rw [List.all_map, List.all_eq_true]
  intro x _
  rfl
/-! letters -/
abbrev letS : Str := "abcdefghijklmnopqrstuvwxyz"
abbrev keptS : List Str := ["boxes", "part", "own", "any", "call", "rest", "all", "none"]
theorem let_at : ∀ c : Fin 26, atI letS.cps.toList (c.val : Int) = some (97 + c.val) := by decide +kernel
theorem let_at' {r : Int} (h0 : 0 ≤ r) (h1 : r < 26) : atI letS.cps.toList r = some (97 + r.toNat) := by
  obtain ⟨n, rfl⟩ := Int.eq_ofNat_of_zero_le h0
  exact let_at ⟨n, by omega⟩
theorem let_ix : ∀ c : Fin 26, Builtin.Str.occurrences letS (wd [97 + c.val]) 0 letS.length 1 = [c.val] := by decide +kernel
theorem let_len : letS.length = 26 := by decide +kernel
def Let (c : Nat) : Prop := 97 ≤ c ∧ c ≤ 122
/-- a word: one to six letters -/
structure Nm (z : Str) : Prop where
  ex : ∃ l : List Nat, z = wd l ∧ 1 ≤ l.length ∧ l.length ≤ 6 ∧ ∀ c ∈ l, Let c
/-- the word with another first letter -/
def rt (k : Nat) (c : Nat) (t : List Nat) : List Nat := (97 + (c - 97 + k) % 26) :: t
theorem rt_zero {c : Nat} {t : List Nat} (h : Let c) : rt 0 c t = c :: t := by
  unfold rt
  obtain ⟨h1, h2⟩ := h
  have : (c - 97 + 0) % 26 = c - 97 := by omega
  rw [this]
  congr 1
  omega
theorem rt_next {c k : Nat} {t : List Nat} : rt k (97 + (c - 97 + 1) % 26) t = rt (k + 1) c t := by
  unfold rt
  congr 2
  omega
theorem rt_inj {c i j : Nat} {t : List Nat} (hi : i < 26) (hj : j < 26) (h : rt i c t = rt j c t) : i = j := by
  unfold rt at h
  injection h with h1 _
  omega
/-- lists without twins within another -/
theorem nodup_le {α : Type} [DecidableEq α] : ∀ {l m : List α}, l.Nodup → (∀ x ∈ l, x ∈ m) → l.length ≤ m.length
  | [], m, _, _ => Nat.zero_le _
  | x :: l, m, h, k => by
    have hx : x ∈ m := k x List.mem_cons_self
    have h1 := nodup_le (l := l) (m := m.erase x) (List.nodup_cons.mp h).2 fun y hy => by
      have ne : y ≠ x := fun e => (List.nodup_cons.mp h).1 (e ▸ hy)
      exact (List.mem_erase_of_ne ne).mpr (k y (List.mem_cons_of_mem _ hy))
    rw [List.length_erase_of_mem hx] at h1
    have : 0 < m.length := List.length_pos_of_mem hx
    rw [List.length_cons]
    omega
theorem few_alike {α β : Type} [DecidableEq β] {f : α → β} {t : β} : ∀ {l : List α}, (l.map f).Nodup → (l.filter fun x => decide (f x = t)).length ≤ 1
  | [], _ => by simp
  | x :: l, h => by
    rw [List.map_cons, List.nodup_cons] at h
    rw [List.filter_cons]
    by_cases e : f x = t
    · rw [if_pos (decide_eq_true e)]
      have : (l.filter fun x => decide (f x = t)) = [] := by
        rw [List.filter_eq_nil_iff]
        intro y hy hd
        have := of_decide_eq_true hd
        exact h.1 (by rw [e, ← this]; exact List.mem_map_of_mem hy)
      rw [this]
      exact Nat.le_refl 1
    · rw [if_neg (by simpa using e)]
      exact few_alike h.2
theorem kept_tails : (keptS.map fun z => z.cps.toList.tail).Nodup := by decide +kernel
/-- of the words with other first letters one is free -/
theorem one_free {c : Nat} {t : List Nat} {found : List Str} (hf : found.length ≤ 20) : ∃ k, k < 26 ∧ wd (rt k c t) ∉ keptS ∧ wd (rt k c t) ∉ found := by
  by_cases h : ∃ k, k < 26 ∧ wd (rt k c t) ∉ keptS ∧ wd (rt k c t) ∉ found
  · exact h
  exfalso
  have all : ∀ k, k < 26 → wd (rt k c t) ∈ (keptS.filter fun z => decide (z.cps.toList.tail = t)) ++ found := fun k hk => by
    by_cases h1 : wd (rt k c t) ∈ keptS
    · exact List.mem_append_left _ (List.mem_filter.mpr ⟨h1, decide_eq_true rfl⟩)
    · by_cases h2 : wd (rt k c t) ∈ found
      · exact List.mem_append_right _ h2
      · exact absurd ⟨k, hk, h1, h2⟩ h
  have nd : ((List.range 26).map fun k => wd (rt k c t)).Nodup := by
    rw [List.nodup_iff_pairwise_ne, List.pairwise_map]
    refine List.Pairwise.imp_of_mem ?_ List.nodup_range
    intro a b ha hb hab e
    exact hab (rt_inj (List.mem_range.mp ha) (List.mem_range.mp hb) (wd_inj e))
  have le := nodup_le nd fun x hx => by
    obtain ⟨k, hk, rfl⟩ := List.mem_map.mp hx
    exact all k (List.mem_range.mp hk)
  have f1 := few_alike (t := t) kept_tails
  rw [List.length_append, List.length_map, List.length_range] at le
  omega
/-- the promise of words: unlike, none of them kept -/
def sp_words : Sp := fun vs H Q _ => ∃ (d l : Addr) (many : Nat) (F : Hp), vs = [.ref d, .int (many : Int)] ∧ Wr d l F H ∧ many ≤ 20 ∧
  ∀ (p : Addr) (names : List Str) (H' : Hp), H p = none → Go d l F H F H' → Own d l F H' p (.lst (names.map V.str)) → names.length = many → names.Nodup → (∀ z ∈ names, Nm z ∧ z ∉ keptS) → Q (.ref p) H'
/-- the part at a place of a drawn program -/
def PartOf (ws : List Str) (sh many mb mr k : Nat) (p : Part) : Prop := ws[9 + k]? = some p.name ∧ ∃ ol : Nat, ol ≤ 2 ∧ p.own = (ws.drop (3 + 2 * k)).take ol ∧ sh + ol ≤ mb ∧ OkRows (sh + p.own.length) many mr p.rows
/-- a program drawn: at most so many boxes, parts, rows -/
def OkProg (mb mp mr : Nat) (p : Prog) : Prop := ∃ ws : List Str, ws.length = 12 ∧ ws.Nodup ∧ (∀ z ∈ ws, Nm z ∧ z ∉ keptS) ∧ ∃ sh : Nat, p.shared = ws.take sh ∧ sh ≤ mb ∧ 1 ≤ p.parts.length ∧ p.parts.length ≤ mp ∧
  ∀ k q, p.parts[k]? = some q → PartOf ws sh p.parts.length mb mr k q
def sp_program (K : PySem.W.Frag) : Sp := fun vs H Q _ => ∃ (d l : Addr) (mb mp mr : Nat) (F : Hp), vs = [.ref d, .int (mb : Int), .int (mp : Int), .int (mr : Int)] ∧ Wr d l F H ∧ mb ≤ 3 ∧ 1 ≤ mp ∧ mp ≤ 3 ∧ 1 ≤ mr ∧ mr ≤ 5 ∧
  ∀ v F' H' p, Go d l F H F' H' → Dp K F' v (dProg p) → OkProg mb mp mr p → Q v H'
end CB

set_option Elab.async false
set_option linter.all false
set_option maxRecDepth 100000
set_option maxHeartbeats 4000000
/-! enumerate(a tuple) -/
namespace CB
open PySem PySem.Spec PyProof.Rows L2
open AutoSeq1 (wpAny_loadPart')
abbrev enO (it : Addr) : Obj := { cls := .type "enumerate", data := .fields #[.none, .bool false, .ref it, rawInt 0, .none, .none] }
theorem enum_newT (l : Addr) (items : Array Value) (n : Nat) (dct : Option Addr) (sl : Array (Option Value)) :
    Meets (Builtin.«enumerate.__new__» ⟨[.type "enumerate", .ref l], []⟩) (fun _ R s => s.heap.get? l = some { cls := .type "tuple", dict := dct, data := .seq items n, slots := sl } ∧
      R (.ok (.ret (.ref (s.heap.push (iterObj .T l)).objs.size))) { s with heap := (s.heap.push (iterObj .T l)).push (enO s.heap.objs.size) }) :=
  .of_wp fun prog w A R s h => by
    obtain ⟨hp, g, d, tk, os⟩ := s
    obtain ⟨hl, h⟩ := h
    have hsub := sub_enumerate
    have hL : Heap.IsTuple (Shared.heap ⟨hp, g, d, tk, os⟩) l items := ⟨_, hl, rfl, n, rfl⟩
    wp_walk using wpAny_loadPart' hl
    refine wpAny_stack_any fun st => wpAny_pure ?_
    split
    · rename_i c _ _ _ _ _
      cases (c == Value.type "enumerate") <;> (wp_walk using wpAny_loadPart' hl, wpAny_pyIter_tuple hL; exact ⟨_, rfl, h⟩)
    · wp_walk using wpAny_loadPart' hl, wpAny_pyIter_tuple hL
      exact ⟨_, rfl, h⟩
section
variable {prog : Program} {w : World} {A : Around} {E : Value → Shared → Prop} {s : Shared}
theorem call_enumT {l : Addr} {items : Array Value} {Q : Value → Shared → Prop} (hL : s.heap.IsTuple l items)
    (h : ∀ h', IsEnum h' (s.heap.objs.size + 1) s.heap.objs.size 0 .none → IterK .T h' s.heap.objs.size l 0 → (∀ b o, s.heap.get? b = some o → h'.get? b = some o) → Q (.ref (s.heap.objs.size + 1)) { s with heap := h' }) :
    wpAny (model prog w) A (call (.type "enumerate") [.ref l]) Q E s := by
  obtain ⟨⟨c, dct, dt, sl⟩, hl, hc, n, hd⟩ := hL
  obtain rfl : c = .type "tuple" := hc
  obtain rfl : dt = .seq items n := hd
  refine callType_new F.called_enumerate (by decide) (F.typeCall_enumerate_1 _) (F.newCall_enumerate_1 _) (fun obj => F.args_object_init_2 obj _) F.entry_enumerate_new (enum_newT l items n dct sl) ⟨hl, ?_⟩
  have hz : (s.heap.push (iterObj .T l)).objs.size = s.heap.objs.size + 1 := Heap.size_push ..
  show _ ∧ _
  rw [hz]
  have he : IsEnum ((s.heap.push (iterObj .T l)).push (enO s.heap.objs.size)) (s.heap.objs.size + 1) s.heap.objs.size 0 .none := by
    have := Heap.get?_push_size (s.heap.push (iterObj .T l)) (o := enO s.heap.objs.size) rfl
    rw [hz] at this
    exact this
  exact ⟨⟨_, he, rfl⟩, h _ he (IterK.start (Heap.get?_push_of_some _ (Heap.get?_push_size _ rfl))) fun b o x => Heap.get?_push_of_some _ (Heap.get?_push_of_some _ x)⟩
end
/-- what enumerate(a tuple) hands out -/
def IteT (K : PySem.W.Frag) (a : Addr) : It :=
  ⟨fun i H => ∃ (xs : List V) (x : V), SqT K H a xs ∧ xs[i]? = some x, fun i H v H' => ∃ T x, v = .ref T ∧ H T = none ∧ H' = upd H T (.tup [.int (i : Nat), x]) ∧ ∀ xs, SqT K H a xs → xs[i]? = some x, fun i H => ∃ xs : List V, SqT K H a xs ∧ xs.length = i⟩
theorem turn_enumT {P : Program} {w : World} {K : PySem.W.Frag} {elts : List Expr} {kk : Nat} {tpos : Pos} (a e it : Addr) (na : a ≠ it) (ne : e ≠ a) :
    Turn P w K (.Tuple elts kk tpos) (IteT K a) [e, it] e (fun i h => (∃ old, IsEnum h e it ((i : Nat) : Int) old) ∧ IterK .T h it a i ∧ e ≠ it) where
  mem := by simp
  obj := fun i h st b hb => by
    obtain ⟨⟨old, he⟩, hi, _⟩ := st
    rcases (by simpa using hb : b = e ∨ b = it) with z | z
    · rw [z]; exact ⟨_, he, fun v q => nomatch q⟩
    · rw [z]; exact hi.obj
  keep := fun i h h' st k => let ⟨⟨old, he⟩, hi, hne⟩ := st; ⟨⟨old, k e (by simp) _ he⟩, hi.at fun o q => k it (by simp) o q, hne⟩
  item := by
    intro X hP hw hK hc i pins s σ H E I hf st hg
    subst hP hw hK
    obtain ⟨⟨old, he⟩, hit, hne⟩ := st
    obtain ⟨xs, x, hq, hx⟩ := hg
    obtain ⟨its, rv, p, hinj⟩ := InvK (k := .T) I hq
    have hlen := rv.length
    obtain ⟨u, hu, ru⟩ := rv.get hx
    have hel : e < s.heap.objs.size := Heap.lt_size he
    have hil : it < s.heap.objs.size := by obtain ⟨_, q, _⟩ := hit.obj; exact Heap.lt_size q
    have hlt : i < its.toArray.size := by rw [List.size_toArray]; exact (List.getElem?_eq_some_iff.mp hu).1
    refine wpAny_pyNext_enum_itemD (drawsK (by rw [Around.in1_handled]; exact I.ok.hd hc) .T it a na its.toArray) he ⟨hit, p⟩ hlt hne (by simp [hne, ne]) fun y h' tk hP ho hst hT hsz hk => ?_
    have ey : y = u := by
      rw [List.getElem?_toArray, hu] at hP
      exact (Option.some.inj hP).symm
    subst ey
    refine ⟨_, rfl, wpAny_letOwnedTupleGo_enum (s := { s with heap := h', toks := tk + 1 }) ho fun h'' he' sb => ?_⟩
    have hT2 : h''.get? s.heap.objs.size = some { cls := .type "tuple", data := .seq #[.int i tk, y] } := (sb.2 _ (Nat.ne_of_gt hel)).trans hT
    have new : ObjOk X.prog X.w (upd H s.heap.objs.size (.tup [.int (i : Nat), x])) h'' s.heap.objs.size (.tup [.int (i : Nat), x]) :=
      ⟨by show 2 ≤ sizeLine; decide, [.int i tk, y], .cons ⟨_, rfl⟩ (.cons ru .nil), ⟨_, hT2, rfl, _, rfl⟩⟩
    have I1 : Inv X pins σ (upd H s.heap.objs.size (.tup [.int (i : Nat), x])) { s with heap := h'', toks := tk + 1 } :=
      I.turnedNew (ch := [e, it]) (fun b ob hb q => (sb.2 b (fun z => hb (by simp [z]))).trans (hk b ob (fun z => hb (by simp [z])) (fun z => hb (by simp [z])) q)) hf (Nat.le_refl _) new
    refine ⟨.ref s.heap.objs.size, _, I1, rfl, ⟨_, x, rfl, I.hok.fresh (Nat.le_refl _), rfl, fun ys hy => by rw [hinj ys hy]; exact hx⟩, ⟨⟨y, ?_⟩, hst.1.at fun o q => (sb.2 it (Ne.symm hne)).trans q, hne⟩, fun b hb => ?_⟩
    · have e1 : ((i + 1 : Nat) : Int) = (i : Int) + 1 := by omega
      rw [e1]; exact he'
    · have hb' : b < s.heap.objs.size := by
        rcases (by simpa using hb : b = e ∨ b = it) with z | z
        · rw [z]; exact hel
        · rw [z]; exact hil
      rw [upd_ne (Nat.ne_of_lt hb')]
      exact (hf b hb).1
  done := by
    intro X hP hw hK hc i pins s σ H E I hf st hg
    subst hP hw hK
    obtain ⟨⟨old, he⟩, hit, hne⟩ := st
    obtain ⟨xs, hq, hx⟩ := hg
    obtain ⟨its, rv, p, hinj⟩ := InvK (k := .T) I hq
    obtain ⟨f0, f1, f2, f3, f4, f5⟩ := hf it (by simp)
    have hl : its.toArray.size = i := by rw [List.size_toArray, ← hx]; exact rv.length.symm
    subst hl
    exact wpAny_pyNext_enum_endD (drawsK (by rw [Around.in1_handled]; exact I.ok.hd hc) .T it a na its.toArray) he ⟨hit, p⟩ fun h' eb => ⟨rfl, I.turned (t' := s.toks) (fun b o hb q => eb b o hb q) f0 f1 f3 f4 f5⟩
  self := fun A i s Q E st h => let ⟨⟨_, he⟩, _⟩ := st; wpAny_pyIter_enum he h
def iEnumT (K : PySem.W.Frag) (ta : TA) : TI := fun σ H R => ta σ H fun vs H1 => ∃ a xs, vs = [.ref a] ∧ SqT K H1 a xs ∧ R (IteT K a) H1
theorem pi_enumT {X : Cx} {K : PySem.W.Frag} {e : Expr} {ta : TA} {p pos tpos : Pos} {elts : List Expr} {kk : Nat} (hg : Gl X "enumerate") (hm : X.mg "enumerate" = none) (ha : PA X [e] ta) (hs : starEach [e] X.env = [(false, eval e X.env)] := by rfl) (hK : X.K = K := by rfl) :
    PI X (.Tuple elts kk tpos) (.Call (.Name "enumerate" p) [e] [] pos) (iEnumT K ta) := by
  subst hK
  refine ⟨fun pins s σ H R I h => ?_⟩
  refine Call_ (ld_blt I hg hm boot_enumerate (PyProof.Rows.callWith_type1 (thn (ha.run pos pins s σ H _ I h) fun us s1 ⟨vs, H1, I1, r1, q1⟩ => ?_) hs rfl))
  obtain ⟨a, xs, ex, hq, q⟩ := q1
  subst ex
  cases r1 with
  | cons r rr =>
    cases rr
    cases r
    obtain ⟨its, rv, p', hz⟩ := InvK (k := .T) I1 hq
    have hal : a < s1.heap.objs.size := HasK.lt (k := .T) p'
    refine call_enumT p' fun h' he hit hk => wpAny_pyIter_enum he ?_
    have I2 : Inv X pins σ H1 { s1 with heap := h' } := I1.kept (t' := s1.toks) hk
    refine ⟨s1.heap.objs.size + 1, [s1.heap.objs.size + 1, s1.heap.objs.size], _, _, H1, rfl, I2, turn_enumT a (s1.heap.objs.size + 1) s1.heap.objs.size (Nat.ne_of_lt hal) (Nat.ne_of_gt (Nat.lt_succ_of_lt hal)), ⟨⟨.none, he⟩, hit, Nat.succ_ne_self _⟩, fun b hb => ?_, q⟩
    have hle : s1.heap.objs.size ≤ b := by
      rcases (by simpa using hb : b = s1.heap.objs.size + 1 ∨ b = s1.heap.objs.size) with z | z
      · rw [z]; exact Nat.le_add_right _ _
      · rw [z]; exact Nat.le_refl _
    exact I1.fpOk hle (I1.hok.fresh hle)
theorem walk_enumT {K : PySem.W.Frag} {a : Addr} {xs : List V} : Walk (IteT K a) xs.length (fun H => SqT K H a xs) (YPair (fun i => some (.int (i : Nat))) (fun i => xs[i]?)) := by
  refine ⟨fun i _ hi q => ⟨xs, xs[i], q, by simp [hi]⟩, fun _ q => ⟨xs, q, rfl⟩, fun i H v H' _ q y => ?_⟩
  obtain ⟨T, x, h1, h2, h3, h4⟩ := y
  exact ⟨T, .int (i : Nat), x, h1, h2, h3, rfl, h4 xs q⟩
end CB

set_option Elab.async false
set_option linter.all false
set_option maxRecDepth 100000
set_option maxHeartbeats 4000000
/-! programs read, looked at -/
namespace CB
open PySem PySem.Spec PyProof.Rows L2
theorem iteD {p A B : Prop} [Decidable p] (hp : p) (h : A) : if decide p = true then A else B := by rw [if_pos (decide_eq_true hp)]; exact h
theorem iteN {p A B : Prop} [Decidable p] (hp : ¬ p) (h : B) : if decide p = true then A else B := by rw [if_neg (fun e => hp (of_decide_eq_true e))]; exact h
section
variable {K : PySem.W.Frag} {F H : Hp} {v : V}
theorem dp1 {a : PyData} (h : Dp K F v (.tuple [a])) : ∃ p x, v = .ref p ∧ SqT K F p [x] ∧ Dp K F x a := by
  obtain ⟨p, xs, e, s, d⟩ := h.tup_inv
  cases d with
  | cons d1 d => cases d; exact ⟨p, _, e, s, d1⟩
theorem dp2 {a b : PyData} (h : Dp K F v (.tuple [a, b])) : ∃ p x y, v = .ref p ∧ SqT K F p [x, y] ∧ Dp K F x a ∧ Dp K F y b := by
  obtain ⟨p, xs, e, s, d⟩ := h.tup_inv
  cases d with
  | cons d1 d =>
    cases d with
    | cons d2 d => cases d; exact ⟨p, _, _, e, s, d1, d2⟩
theorem dp3 {a b c : PyData} (h : Dp K F v (.tuple [a, b, c])) : ∃ p x y z, v = .ref p ∧ SqT K F p [x, y, z] ∧ Dp K F x a ∧ Dp K F y b ∧ Dp K F z c := by
  obtain ⟨p, xs, e, s, d⟩ := h.tup_inv
  cases d with
  | cons d1 d =>
    cases d with
    | cons d2 d =>
      cases d with
      | cons d3 d => cases d; exact ⟨p, _, _, _, e, s, d1, d2, d3⟩
theorem dp_strs_of : ∀ {vs : List V} {ns : List Str}, DpAll K F vs (ns.map PyData.str) → vs = ns.map V.str
  | _, [], h => by cases h; rfl
  | _, n :: r, h => by
    cases h with
    | cons h1 h2 => cases h1; rw [dp_strs_of h2]; rfl
theorem dp_ts {l : List Str} (h : Dp K F v (ts l)) : ∃ a, v = .ref a ∧ SqT K F a (l.map V.str) := by
  obtain ⟨a, xs, e, s, d⟩ := h.tup_inv
  rw [dp_strs_of d] at s
  exact ⟨a, e, s⟩
theorem dp_map {α : Type} {f : α → PyData} {l : List α} (h : Dp K F v (.tuple (l.map f))) : ∃ a xs, v = .ref a ∧ SqT K F a xs ∧ DpAll K F xs (l.map f) ∧ xs.length = l.length := by
  obtain ⟨a, xs, e, s, d⟩ := h.tup_inv
  exact ⟨a, xs, e, s, d, by rw [d.length, List.length_map]⟩
theorem dp_at {α : Type} {f : α → PyData} {l : List α} {xs : List V} {i : Nat} {y : α} (h : DpAll K F xs (l.map f)) (e : l[i]? = some y) : ∃ x, xs[i]? = some x ∧ Dp K F x (f y) :=
  h.get' (by rw [List.getElem?_map, e]; rfl)
theorem dp_at' {α : Type} {f : α → PyData} {l : List α} {xs : List V} {i : Nat} {x : V} (h : DpAll K F xs (l.map f)) (e : xs[i]? = some x) : ∃ y, l[i]? = some y ∧ Dp K F x (f y) := by
  obtain ⟨d, e1, e2⟩ := h.get e
  rw [List.getElem?_map] at e1
  obtain ⟨y, ey, rfl⟩ := Option.map_eq_some_iff.mp e1
  exact ⟨y, ey, e2⟩
theorem dp_prog {p : Prog} (h : Dp K F v (dProg p)) : ∃ a as ap xp, v = .ref a ∧ SqT K F a [.ref as, .ref ap] ∧ SqT K F as (p.shared.map V.str) ∧ SqT K F ap xp ∧ DpAll K F xp (p.parts.map dPart) ∧ xp.length = p.parts.length := by
  obtain ⟨a, x, y, e, s, d1, d2⟩ := dp2 h
  obtain ⟨as, rfl, s1⟩ := dp_ts d1
  obtain ⟨ap, xp, rfl, s2, dx, l⟩ := dp_map d2
  exact ⟨a, as, ap, xp, e, s, s1, s2, dx, l⟩
theorem dp_part {p : Part} (h : Dp K F v (dPart p)) : ∃ a ao ar xr, v = .ref a ∧ SqT K F a [.str p.name, .ref ao, .ref ar] ∧ SqT K F ao (p.own.map V.str) ∧ SqT K F ar xr ∧ DpAll K F xr (p.rows.map dRow) ∧ xr.length = p.rows.length := by
  obtain ⟨a, x, y, z, e, s, d1, d2, d3⟩ := dp3 h
  obtain ⟨ao, rfl, s1⟩ := dp_ts d2
  obtain ⟨ar, xr, rfl, s2, dx, l⟩ := dp_map d3
  cases d1.str_inv
  exact ⟨a, ao, ar, xr, e, s, s1, s2, dx, l⟩
theorem dp_row {r : Deed × List Int} (h : Dp K F v (dRow r)) : ∃ a ad ag, v = .ref a ∧ SqT K F a [.ref ad, .ref ag] ∧ Dp K F (.ref ad) (dDeed r.1) ∧ SqT K F ag (r.2.map V.int) := by
  obtain ⟨a, x, y, e, s, d1, d2⟩ := dp2 h
  obtain ⟨ag, rfl, s1⟩ := d2.ti_inv
  obtain ⟨ad, rfl⟩ : ∃ ad, x = .ref ad := by
    obtain ⟨r1, r2⟩ := r
    cases r1 <;> (obtain ⟨b, _, eb, _⟩ := d1.tup_inv; exact ⟨b, eb⟩)
  exact ⟨a, ad, ag, e, s, d1, s1⟩
/-- a slice of a tuple -/
theorem slA_by {a : Addr} {xs : List V} {lo hi : Option Int} {Q : VK} (h : SqT K H a xs) (q : ∀ t H', Ex H H' → SqT K H' t (cutV xs lo hi) → Q (.ref t) H') : rSlA K (.ref a) lo hi H Q := by
  refine ⟨a, _, rfl, h, fun e => ?_, fun _ t nt => q t _ (Evl.Ex.new nt) (SqT.of upd_same)⟩
  refine q a H (Evl.Ex.refl _) ?_
  have : cutV xs lo hi = xs := by
    unfold cutV
    rw [e.1, e.2, List.drop_zero, Nat.sub_zero, List.take_length]
  rw [this]
  exact h
theorem catA_by {a b : Addr} {xs ys : List V} {Q : VK} (h : SqT K H a xs) (h2 : SqT K H b ys) (hl : xs.length + ys.length ≤ 1000) (q : ∀ t H', Ex H H' → SqT K H' t (xs ++ ys) → Q (.ref t) H') : rCatA K (.ref a) (.ref b) H Q := by
  refine ⟨a, b, _, _, rfl, rfl, h, h2, Nat.le_of_lt (small1000 hl), fun e => ?_, fun _ e => ?_, fun _ _ t nt => q t _ (Evl.Ex.new nt) (SqT.of upd_same)⟩
  · subst e
    exact q b H (Evl.Ex.refl _) h2
  · subst e
    exact q a H (Evl.Ex.refl _) (by rw [List.append_nil]; exact h)
end
theorem cut_takeV (xs : List V) {s : Nat} (h : s ≤ xs.length) : cutV xs none (some (s : Int)) = xs.take s := by
  unfold cutV
  rw [HT.sIx_none, HT.sIx_nat, List.drop_zero, Nat.min_eq_left h, Nat.sub_zero]
theorem cut_dropV (xs : List V) {s : Nat} (h : s ≤ xs.length) : cutV xs (some (s : Int)) none = xs.drop s := by
  unfold cutV
  rw [HT.sIx_none, HT.sIx_nat, Nat.min_eq_left h]
  exact List.take_of_length_le (by rw [List.length_drop]; exact Nat.le_refl _)
/-- a program that is let by -/
structure LookOk (p : Prog) : Prop where
  p1 : 1 ≤ p.parts.length
  p3 : p.parts.length ≤ 3
  nd : p.shared.Nodup
  names : (p.parts.map Part.name).Nodup
  part : ∀ q ∈ p.parts, (p.shared ++ q.own).Nodup ∧ p.shared.length + q.own.length ≤ 3 ∧ OkRows (p.shared.length + q.own.length) p.parts.length 5 q.rows
def sp_need : Sp := fun vs H Q _ => ∃ (g : Bool) (a b c : V), vs = [.bl g, a, b, c] ∧ g = true ∧ Q .non H
def sp_rising (K : PySem.W.Frag) : Sp := fun vs H Q _ => ∃ (a : Addr) (g : List Int), vs = [.ref a] ∧ SqT K H a (g.map V.int) ∧ g.length ≤ 100 ∧ g.Pairwise (· < ·) ∧ ∀ H', Ex H H' → Q (.bl true) H'
def sp_look_row (K : PySem.W.Frag) : Sp := fun vs H Q _ => ∃ (v : V) (p : Prog) (i k : Nat) (q : Part), vs = [v, .int (i : Int), .int (k : Int)] ∧ Dp K H v (dProg p) ∧ LookOk p ∧ p.parts[i]? = some q ∧ k < q.rows.length ∧ ∀ H', Ex H H' → Q .non H'
def sp_look_part (K : PySem.W.Frag) : Sp := fun vs H Q _ => ∃ (v : V) (p : Prog) (i : Nat), vs = [v, .int (i : Int)] ∧ Dp K H v (dProg p) ∧ LookOk p ∧ i < p.parts.length ∧ ∀ H', Ex H H' → Q .non H'
def sp_look (K : PySem.W.Frag) : Sp := fun vs H Q _ => ∃ (v : V) (p : Prog), vs = [v] ∧ Dp K H v (dProg p) ∧ LookOk p ∧ ∀ H', Ex H H' → Q (.bl true) H'
theorem not_in_take {ns : List Str} {b : Nat} {z : Str} (h : ns.Nodup) (e : ns[b]? = some z) : inV (.str z) ((ns.take b).map V.str) = false := by
  rw [in_strs]
  refine decide_eq_false fun hz => ?_
  obtain ⟨j, hj⟩ := List.mem_iff_getElem?.mp hz
  rw [List.getElem?_take] at hj
  by_cases hjb : j < b
  · rw [if_pos hjb] at hj
    have h1 := (List.getElem?_eq_some_iff.mp hj).1
    have h2 := (List.getElem?_eq_some_iff.mp e).1
    have := (List.getElem?_inj h1 h).mp (hj.trans e.symm)
    omega
  · rw [if_neg hjb] at hj
    cases hj

theorem snoc_true {i : Nat} {b : Bool} (h : b = true) : some (HO.lst ((List.replicate i true).map V.bl ++ [V.bl b])) = some (HO.lst ((List.replicate (i + 1) true).map V.bl)) := by
  rw [h, List.replicate_succ', List.map_append]
  rfl
theorem iteT' {b : Bool} {A B : Prop} (hb : b = true) (h : A) : if b = true then A else B := by rw [if_pos hb]; exact h
theorem iteF' {b : Bool} {A B : Prop} (hb : b = false) (h : B) : if b = true then A else B := by rw [hb]; exact h
end CB

set_option Elab.async false
set_option linter.all false
set_option maxRecDepth 100000
set_option maxHeartbeats 4000000
/-! drawn programs are let by; so are they with other names -/
namespace CB
open PySem PySem.Spec PyProof.Rows L2
theorem cut_two {ws : List Str} (h : ws.Nodup) {sh a b : Nat} (ha : sh ≤ a) : (ws.take sh ++ (ws.drop a).take b).Nodup := by
  have h1 : ((ws.drop a).take b).Sublist (ws.drop sh) := (List.take_sublist _ _).trans (List.drop_sublist_drop_left ws ha)
  have h2 : (ws.take sh ++ (ws.drop a).take b).Sublist (ws.take sh ++ ws.drop sh) := (List.Sublist.refl _).append h1
  rw [List.take_append_drop] at h2
  exact h.sublist h2
section
variable {p : Prog} {mb mp mr : Nat}
theorem names_of {ws : List Str} {sh many : Nat} (h : ∀ k q, p.parts[k]? = some q → PartOf ws sh many mb mr k q) : p.parts.map Part.name = (ws.drop 9).take p.parts.length := by
  apply List.ext_getElem?
  intro k
  by_cases hk : k < p.parts.length
  · have e : p.parts[k]? = some p.parts[k] := List.getElem?_eq_getElem hk
    obtain ⟨h1, _⟩ := h k _ e
    rw [List.getElem?_map, e, List.getElem?_take, if_pos hk, List.getElem?_drop, h1]
    rfl
  · rw [List.getElem?_eq_none (by rw [List.length_map]; omega), List.getElem?_eq_none]
    rw [List.length_take]
    omega
theorem OkProg.look (h : OkProg mb mp mr p) (hb : mb ≤ 3) (hp : mp ≤ 3) (hr : mr ≤ 5) : LookOk p ∧ (p.shared ++ p.parts.map Part.name).Nodup := by
  obtain ⟨ws, lw, nd, hw, sh, es, hsh, p1, p3, parts⟩ := h
  have en := names_of parts
  have n2 : (p.shared ++ p.parts.map Part.name).Nodup := by
    rw [en, es]
    exact cut_two nd (by omega)
  have lsh : p.shared.length = sh := by rw [es, List.length_take, lw]; omega
  refine ⟨⟨p1, by omega, (List.nodup_append.mp n2).1, (List.nodup_append.mp n2).2.1, fun q hq => ?_⟩, n2⟩
  obtain ⟨k, ek⟩ := List.mem_iff_getElem?.mp hq
  obtain ⟨_, ol, o2, eo, ho, r1, r2, r3⟩ := parts k q ek
  have hk := (List.getElem?_eq_some_iff.mp ek).1
  have lo : q.own.length ≤ ol := by rw [eo, List.length_take]; omega
  refine ⟨by rw [es, eo]; exact cut_two nd (by omega), by omega, r1, by omega, ?_⟩
  rw [lsh]
  exact r3
end
/-- other names, the same rows -/
def Lk (p : Prog) (nm : List Str) (ps : List Part) : Prop := ∀ (k : Nat) (q' : Part), ps[k]? = some q' → ∃ q : Part, p.parts[k]? = some q ∧ q'.rows = q.rows ∧ q'.own.length = q.own.length ∧ (p.shared ++ q'.own).Nodup ∧ nm[k]? = some q'.name
theorem Lk.snoc {p : Prog} {nm : List Str} {ps : List Part} {q' : Part} (h : Lk p nm ps) (k : ∃ q : Part, p.parts[ps.length]? = some q ∧ q'.rows = q.rows ∧ q'.own.length = q.own.length ∧ (p.shared ++ q'.own).Nodup ∧ nm[ps.length]? = some q'.name) : Lk p nm (ps ++ [q']) := fun j r e => by
  by_cases hj : j < ps.length
  · rw [List.getElem?_append_left hj] at e
    exact h j r e
  · have hlt := (List.getElem?_eq_some_iff.mp e).1
    rw [List.length_append] at hlt
    have hj2 : j = ps.length := by
      simp at hlt
      omega
    subst hj2
    rw [List.getElem?_append_right (Nat.le_refl _), Nat.sub_self] at e
    have : q' = r := by simpa using e
    subst this
    exact k
theorem Lk.look {p : Prog} {nm : List Str} {ps : List Part} (L : LookOk p) (nn : nm.Nodup) (h : Lk p nm ps) (l : ps.length = p.parts.length) : LookOk ⟨p.shared, ps⟩ := by
  refine ⟨by rw [l]; exact L.p1, by rw [l]; exact L.p3, L.nd, ?_, fun q' hq => ?_⟩
  · have e : ps.map Part.name = nm.take ps.length := by
      apply List.ext_getElem?
      intro k
      by_cases hk : k < ps.length
      · have e : ps[k]? = some ps[k] := List.getElem?_eq_getElem hk
        obtain ⟨q, _, _, _, _, h1⟩ := h k _ e
        rw [List.getElem?_map, e, List.getElem?_take, if_pos hk, h1]
        rfl
      · rw [List.getElem?_eq_none (by rw [List.length_map]; omega), List.getElem?_eq_none]
        rw [List.length_take]
        omega
    show (ps.map Part.name).Nodup
    rw [e]
    exact nn.sublist (List.take_sublist _ _)
  · obtain ⟨k, ek⟩ := List.mem_iff_getElem?.mp hq
    obtain ⟨q, eq, er, eo, nd, _⟩ := h k q' ek
    obtain ⟨_, h2, h3⟩ := L.part q (List.mem_of_getElem? eq)
    refine ⟨nd, by show p.shared.length + q'.own.length ≤ 3; omega, ?_⟩
    show OkRows (p.shared.length + q'.own.length) ps.length 5 q'.rows
    rw [er, eo, l]
    exact h3
/-- the promise: a program that is let by -/
def sp_renamed (K : PySem.W.Frag) : Sp := fun vs H Q _ => ∃ (d l : Addr) (v : V) (p : Prog) (F : Hp), vs = [.ref d, v] ∧ Wr d l F H ∧ Dp K F v (dProg p) ∧ OkProg 3 3 5 p ∧
  ∀ v' F' H' p', Go d l F H F' H' → Dp K F' v' (dProg p') → LookOk p' → Q v' H'
def sp_bounds (K : PySem.W.Frag) : Sp := fun vs H Q _ => ∃ (d l : Addr) (F : Hp), vs = [.ref d] ∧ Wr d l F H ∧
  ∀ v' F' H' p', Go d l F H F' H' → Dp K F' v' (dProg p') → LookOk p' → Q v' H'
end CB

set_option Elab.async false
set_option linter.all false
set_option maxRecDepth 100000
set_option maxHeartbeats 4000000
namespace LW
open PySem PySem.Spec PyProof.Rows L2 CB
def topS (i : Nat) : Stmt := PySem.Challenge.pw_curvekept_k15_programs_let_by.main.body.getD i (.Pass ⟨0, 0, 0, 0⟩)
abbrev nm_need : List Str := ["good", "word", "part", "row"]
abbrev st_need : Stmt := topS 9
theorem sc_need : FnScope ["good", "word", "part", "row"] ["good", "word", "part", "row"] (defScope st_need) := ⟨rfl, rfl, rfl, by decide +kernel, rfl, by decide +kernel, by decide +kernel⟩

abbrev nm_rising : List Str := ["numbers", "k"]
abbrev st_rising : Stmt := topS 10
theorem sc_rising : FnScope ["numbers", "k"] ["numbers"] (defScope st_rising) := ⟨rfl, rfl, rfl, by decide +kernel, rfl, by decide +kernel, by decide +kernel⟩

abbrev nm_look_row : List Str := ["program", "p", "k", "shared", "parts", "name", "own", "rows", "deed", "goings", "many", "good", "number", "going"]
abbrev st_look_row : Stmt := topS 11
theorem sc_look_row : FnScope ["program", "p", "k", "shared", "parts", "name", "own", "rows", "deed", "goings", "many", "good", "number", "going"] ["program", "p", "k"] (defScope st_look_row) := ⟨rfl, rfl, rfl, by decide +kernel, rfl, by decide +kernel, by decide +kernel⟩

abbrev nm_look_part : List Str := ["program", "p", "shared", "parts", "name", "own", "rows", "q", "names", "b", "k"]
abbrev st_look_part : Stmt := topS 12
theorem sc_look_part : FnScope ["program", "p", "shared", "parts", "name", "own", "rows", "q", "names", "b", "k"] ["program", "p"] (defScope st_look_part) := ⟨rfl, rfl, rfl, by decide +kernel, rfl, by decide +kernel, by decide +kernel⟩

abbrev nm_look : List Str := ["program", "shared", "parts", "b", "name", "p"]
abbrev st_look : Stmt := topS 13
theorem sc_look : FnScope ["program", "shared", "parts", "b", "name", "p"] ["program"] (defScope st_look) := ⟨rfl, rfl, rfl, by decide +kernel, rfl, by decide +kernel, by decide +kernel⟩

abbrev nm__law_deal : List Str := ["_law_script", "_law_base", "_law_some", "_law_one", "_law_number"]
abbrev st__law_deal : Stmt := topS 15
theorem sc__law_deal : FnScope ["_law_script", "_law_base", "_law_some", "_law_one", "_law_number"] ["_law_script", "_law_base"] (defScope st__law_deal) := ⟨rfl, rfl, rfl, by decide +kernel, rfl, by decide +kernel, by decide +kernel⟩

abbrev nm__law_draw : List Str := ["_law_deal_here", "_law_many", "_law_number", "_law_one", "_law_other"]
abbrev st__law_draw : Stmt := topS 16
theorem sc__law_draw : FnScope ["_law_deal_here", "_law_many", "_law_number", "_law_one", "_law_other"] ["_law_deal_here", "_law_many"] (defScope st__law_draw) := ⟨rfl, rfl, rfl, by decide +kernel, rfl, by decide +kernel, by decide +kernel⟩

abbrev nm__law_words : List Str := ["_law_deal_here", "_law_many", "_law_letters", "_law_words_kept", "_law_core", "_law_k", "_law_at", "_law_turn", "_law_near", "_law_found", "_law_name", "_law_j"]
abbrev st__law_words : Stmt := topS 17
theorem sc__law_words : FnScope ["_law_deal_here", "_law_many", "_law_letters", "_law_words_kept", "_law_core", "_law_k", "_law_at", "_law_turn", "_law_near", "_law_found", "_law_name", "_law_j"] ["_law_deal_here", "_law_many"] (defScope st__law_words) := ⟨rfl, rfl, rfl, by decide +kernel, rfl, by decide +kernel, by decide +kernel⟩

abbrev nm__law_small : List Str := ["_law_deal_here", "_law_some"]
abbrev st__law_small : Stmt := topS 18
theorem sc__law_small : FnScope ["_law_deal_here", "_law_some"] ["_law_deal_here"] (defScope st__law_small) := ⟨rfl, rfl, rfl, by decide +kernel, rfl, by decide +kernel, by decide +kernel⟩

abbrev nm__law_sum : List Str := ["_law_deal_here", "_law_n", "_law_form", "_law_found", "_law_turn"]
abbrev st__law_sum : Stmt := topS 19
theorem sc__law_sum : FnScope ["_law_deal_here", "_law_n", "_law_form", "_law_found", "_law_turn"] ["_law_deal_here", "_law_n"] (defScope st__law_sum) := ⟨rfl, rfl, rfl, by decide +kernel, rfl, by decide +kernel, by decide +kernel⟩

abbrev nm__law_goings : List Str := ["_law_deal_here", "_law_at", "_law_many", "_law_form", "_law_found", "_law_turn"]
abbrev st__law_goings : Stmt := topS 20
theorem sc__law_goings : FnScope ["_law_deal_here", "_law_at", "_law_many", "_law_form", "_law_found", "_law_turn"] ["_law_deal_here", "_law_at", "_law_many"] (defScope st__law_goings) := ⟨rfl, rfl, rfl, by decide +kernel, rfl, by decide +kernel, by decide +kernel⟩

abbrev nm__law_deed : List Str := ["_law_deal_here", "_law_n", "_law_parts", "_law_form"]
abbrev st__law_deed : Stmt := topS 21
theorem sc__law_deed : FnScope ["_law_deal_here", "_law_n", "_law_parts", "_law_form"] ["_law_deal_here", "_law_n", "_law_parts"] (defScope st__law_deed) := ⟨rfl, rfl, rfl, by decide +kernel, rfl, by decide +kernel, by decide +kernel⟩

abbrev nm__law_part : List Str := ["_law_deal_here", "_law_name", "_law_shared", "_law_own", "_law_parts", "_law_most", "_law_n", "_law_many", "_law_rows", "_law_k"]
abbrev st__law_part : Stmt := topS 22
theorem sc__law_part : FnScope ["_law_deal_here", "_law_name", "_law_shared", "_law_own", "_law_parts", "_law_most", "_law_n", "_law_many", "_law_rows", "_law_k"] ["_law_deal_here", "_law_name", "_law_shared", "_law_own", "_law_parts", "_law_most"] (defScope st__law_part) := ⟨rfl, rfl, rfl, by decide +kernel, rfl, by decide +kernel, by decide +kernel⟩

abbrev nm__law_program : List Str := ["_law_deal_here", "_law_most_boxes", "_law_most_parts", "_law_most_rows", "_law_words_here", "_law_shared", "_law_many", "_law_calls", "_law_parts", "_law_k", "_law_own"]
abbrev st__law_program : Stmt := topS 23
theorem sc__law_program : FnScope ["_law_deal_here", "_law_most_boxes", "_law_most_parts", "_law_most_rows", "_law_words_here", "_law_shared", "_law_many", "_law_calls", "_law_parts", "_law_k", "_law_own"] ["_law_deal_here", "_law_most_boxes", "_law_most_parts", "_law_most_rows"] (defScope st__law_program) := ⟨rfl, rfl, rfl, by decide +kernel, rfl, by decide +kernel, by decide +kernel⟩

abbrev nm__law_renamed : List Str := ["_law_deal_here", "_law_program_here", "_law_shared", "_law_parts", "_law_form", "_law_spare", "_law_name", "_law_own", "_law_rows", "_law_names", "_law_k", "_law_found", "_law_some"]
abbrev st__law_renamed : Stmt := topS 24
theorem sc__law_renamed : FnScope ["_law_deal_here", "_law_program_here", "_law_shared", "_law_parts", "_law_form", "_law_spare", "_law_name", "_law_own", "_law_rows", "_law_names", "_law_k", "_law_found", "_law_some"] ["_law_deal_here", "_law_program_here"] (defScope st__law_renamed) := ⟨rfl, rfl, rfl, by decide +kernel, rfl, by decide +kernel, by decide +kernel⟩

abbrev nm__law_at_bounds : List Str := ["_law_deal_here", "_law_words_here", "_law_shared", "_law_parts", "_law_k", "_law_own", "_law_rows", "_law_j", "_law_given", "_law_b", "_law_deed_here", "_law_out", "_law_some", "_law_going"]
abbrev st__law_at_bounds : Stmt := topS 25
theorem sc__law_at_bounds : FnScope ["_law_deal_here", "_law_words_here", "_law_shared", "_law_parts", "_law_k", "_law_own", "_law_rows", "_law_j", "_law_given", "_law_b", "_law_deed_here", "_law_out", "_law_some", "_law_going"] ["_law_deal_here"] (defScope st__law_at_bounds) := ⟨rfl, rfl, rfl, by decide +kernel, rfl, by decide +kernel, by decide +kernel⟩

abbrev nm_law : List Str := ["_law_script", "_law_deal_here", "_law_programs", "_law_turn", "_law_program_here"]
abbrev st_law : Stmt := topS 26
theorem sc_law : FnScope ["_law_script", "_law_deal_here", "_law_programs", "_law_turn", "_law_program_here"] ["_law_script"] (defScope st_law) := ⟨rfl, rfl, rfl, by decide +kernel, rfl, by decide +kernel, by decide +kernel⟩

/-! ### what the top leaves -/
structure Txt (K : PySem.W.Frag) (mg : Str → Option Value) where
  f_need : Addr
  fd_need : FuncData
  F_need : Fun K "need" "need" st_need f_need fd_need
  b_need : Binds K fd_need ["good", "word", "part", "row"] []
  g_need : mg "need" = some (.ref f_need)
  f_rising : Addr
  fd_rising : FuncData
  F_rising : Fun K "rising" "rising" st_rising f_rising fd_rising
  b_rising : Binds K fd_rising ["numbers"] []
  g_rising : mg "rising" = some (.ref f_rising)
  f_look_row : Addr
  fd_look_row : FuncData
  F_look_row : Fun K "look_row" "look_row" st_look_row f_look_row fd_look_row
  b_look_row : Binds K fd_look_row ["program", "p", "k"] []
  g_look_row : mg "look_row" = some (.ref f_look_row)
  f_look_part : Addr
  fd_look_part : FuncData
  F_look_part : Fun K "look_part" "look_part" st_look_part f_look_part fd_look_part
  b_look_part : Binds K fd_look_part ["program", "p"] []
  g_look_part : mg "look_part" = some (.ref f_look_part)
  f_look : Addr
  fd_look : FuncData
  F_look : Fun K "look" "look" st_look f_look fd_look
  b_look : Binds K fd_look ["program"] []
  g_look : mg "look" = some (.ref f_look)
  f__law_deal : Addr
  fd__law_deal : FuncData
  F__law_deal : Fun K "_law_deal" "_law_deal" st__law_deal f__law_deal fd__law_deal
  b__law_deal : Binds K fd__law_deal ["_law_script", "_law_base"] []
  g__law_deal : mg "_law_deal" = some (.ref f__law_deal)
  f__law_draw : Addr
  fd__law_draw : FuncData
  F__law_draw : Fun K "_law_draw" "_law_draw" st__law_draw f__law_draw fd__law_draw
  b__law_draw : Binds K fd__law_draw ["_law_deal_here", "_law_many"] []
  g__law_draw : mg "_law_draw" = some (.ref f__law_draw)
  f__law_words : Addr
  fd__law_words : FuncData
  F__law_words : Fun K "_law_words" "_law_words" st__law_words f__law_words fd__law_words
  b__law_words : Binds K fd__law_words ["_law_deal_here", "_law_many"] []
  g__law_words : mg "_law_words" = some (.ref f__law_words)
  f__law_small : Addr
  fd__law_small : FuncData
  F__law_small : Fun K "_law_small" "_law_small" st__law_small f__law_small fd__law_small
  b__law_small : Binds K fd__law_small ["_law_deal_here"] []
  g__law_small : mg "_law_small" = some (.ref f__law_small)
  f__law_sum : Addr
  fd__law_sum : FuncData
  F__law_sum : Fun K "_law_sum" "_law_sum" st__law_sum f__law_sum fd__law_sum
  b__law_sum : Binds K fd__law_sum ["_law_deal_here", "_law_n"] []
  g__law_sum : mg "_law_sum" = some (.ref f__law_sum)
  f__law_goings : Addr
  fd__law_goings : FuncData
  F__law_goings : Fun K "_law_goings" "_law_goings" st__law_goings f__law_goings fd__law_goings
  b__law_goings : Binds K fd__law_goings ["_law_deal_here", "_law_at", "_law_many"] []
  g__law_goings : mg "_law_goings" = some (.ref f__law_goings)
  f__law_deed : Addr
  fd__law_deed : FuncData
  F__law_deed : Fun K "_law_deed" "_law_deed" st__law_deed f__law_deed fd__law_deed
  b__law_deed : Binds K fd__law_deed ["_law_deal_here", "_law_n", "_law_parts"] []
  g__law_deed : mg "_law_deed" = some (.ref f__law_deed)
  f__law_part : Addr
  fd__law_part : FuncData
  F__law_part : Fun K "_law_part" "_law_part" st__law_part f__law_part fd__law_part
  b__law_part : Binds K fd__law_part ["_law_deal_here", "_law_name", "_law_shared", "_law_own", "_law_parts", "_law_most"] []
  g__law_part : mg "_law_part" = some (.ref f__law_part)
  f__law_program : Addr
  fd__law_program : FuncData
  F__law_program : Fun K "_law_program" "_law_program" st__law_program f__law_program fd__law_program
  b__law_program : Binds K fd__law_program ["_law_deal_here", "_law_most_boxes", "_law_most_parts", "_law_most_rows"] []
  g__law_program : mg "_law_program" = some (.ref f__law_program)
  f__law_renamed : Addr
  fd__law_renamed : FuncData
  F__law_renamed : Fun K "_law_renamed" "_law_renamed" st__law_renamed f__law_renamed fd__law_renamed
  b__law_renamed : Binds K fd__law_renamed ["_law_deal_here", "_law_program_here"] []
  g__law_renamed : mg "_law_renamed" = some (.ref f__law_renamed)
  f__law_at_bounds : Addr
  fd__law_at_bounds : FuncData
  F__law_at_bounds : Fun K "_law_at_bounds" "_law_at_bounds" st__law_at_bounds f__law_at_bounds fd__law_at_bounds
  b__law_at_bounds : Binds K fd__law_at_bounds ["_law_deal_here"] []
  g__law_at_bounds : mg "_law_at_bounds" = some (.ref f__law_at_bounds)
  f_law : Addr
  fd_law : FuncData
  F_law : Fun K "law" "law" st_law f_law fd_law
  b_law : Binds K fd_law ["_law_script"] []
  g_law : mg "law" = some (.ref f_law)
  u_MOST_PARTS : Value
  g_MOST_PARTS : mg "MOST_PARTS" = some u_MOST_PARTS
  r_MOST_PARTS : RelV (.int 3) u_MOST_PARTS
  u_MOST_ROWS : Value
  g_MOST_ROWS : mg "MOST_ROWS" = some u_MOST_ROWS
  r_MOST_ROWS : RelV (.int 5) u_MOST_ROWS
  u_MOST_GOINGS : Value
  g_MOST_GOINGS : mg "MOST_GOINGS" = some u_MOST_GOINGS
  r_MOST_GOINGS : RelV (.int 3) u_MOST_GOINGS
  u_MOST_BOXES : Value
  g_MOST_BOXES : mg "MOST_BOXES" = some u_MOST_BOXES
  r_MOST_BOXES : RelV (.int 3) u_MOST_BOXES
  u_GREATEST : Value
  g_GREATEST : mg "GREATEST" = some u_GREATEST
  r_GREATEST : RelV (.int 9) u_GREATEST
  z_abs : mg "abs" = none
  z_all : mg "all" = none
  z_enumerate : mg "enumerate" = none
  z_int : mg "int" = none
  z_len : mg "len" = none
  z_list : mg "list" = none
  z_max : mg "max" = none
  z_min : mg "min" = none
  z_range : mg "range" = none
  z_reversed : mg "reversed" = none
  z_set : mg "set" = none
  z_sorted : mg "sorted" = none
  z_tuple : mg "tuple" = none
section
variable {P : Program} {w : World} {K : PySem.W.Frag} {mg : Str → Option Value} {base : Heap}
/-! ### a draw -/
theorem ok_draw {k : Nat} (T : Txt K mg) : FnOk P w K mg base CX0 (k + 1) T.f__law_draw T.fd__law_draw ["_law_deal_here", "_law_many"] sp_draw := by
  refine T.F__law_draw.ok sc__law_draw (fun vs H Q E h => ?_) (fun cdv A outer s H vs Q E hr h => ?_)
  · obtain ⟨d, l, m, rfl, _⟩ := h
    rfl
  · obtain ⟨d, l, m, rfl, hD, m0, m1, q⟩ := h
    have hu := hu_of hr
    refine ⟨_, (Evl.pss_cut (ps_while PassesOwn.never (PW.pt (pw_and (pt_cmpR op_eq (pe_dget hu (pv 0) pe_str (fun _ _ => rfl)) pe_int (nomark _)) (pw_and1 (pt_cmpR op_gt (pe_callB (call_lenK (K := K)) (by rfl) T.z_len bt_len (pa_cons (pe_dget hu (pv 0) pe_str (fun _ _ => rfl)) pa_nil)) pe_int (nomark _)))))
        (pss_one (ps_dput hu (pv 0) pe_str (pe_bm0 PySem.F.plainAttrs_list PySem.F.slot_list_pop PySem.F.type_list_pop mt_pop (pe_dget hu (pv 0) pe_str (fun _ _ => rfl))) rfl)))
      (pss_cons (ps_set (i := 2) sc__law_draw.nd rfl (Or.inl rfl) (pe_dget hu (pv 0) pe_str (fun _ _ => rfl)))
      (pss_cons (ps_if (pt_cmpR op_gt (pv 2) pe_int (nomark _)) (pss_cons (ps_dput hu (pv 0) pe_str (pe_op op_fdivN (pv 2) (pv 1)) rfl)
        (pss_one (ps_ret (pe_op op_modN (pv 2) (pv 1))))) pss_nil)
      (pss_cons (ps_set (i := 3) sc__law_draw.nd rfl (Or.inl rfl) (pe_op op_modN (pe_op op_add (pe_op op_mul (pe_dget hu (pv 0) pe_str (fun _ _ => rfl)) pe_int) pe_int) pe_int))
      (pss_cons (ps_dput hu (pv 0) pe_str (pe_op op_modN (pe_op op_add (pe_op op_mul (pv 3) pe_int) pe_int) pe_int) rfl)
      (pss_cons (ps_set (i := 4) sc__law_draw.nd rfl (Or.inl rfl) (pe_op op_modN (pe_op op_mul (pe_dget hu (pv 0) pe_str (fun _ _ => rfl)) (pe_dget hu (pv 0) pe_str (fun _ _ => rfl))) pe_int))
      (pss_one (ps_ret (pe_op op_modN (pe_op op_add (pe_op op_mul (pe_op op_modN (pe_op op_mul (pv 3) (pv 3)) pe_int) pe_int) (pv 4)) (pv 1)))))))))), ?_⟩
    refine ⟨fun σ H1 => ∃ s n ls, σ = [some (.ref d), some (.int m), none, none, none] ∧ Deal H1 d l s n ls ∧ (∀ b, b ≠ d → b ≠ l → H1 b = H b), ?_, ?_⟩
    · refine ⟨fun mm σ H1 => ∃ s n ls, σ = [some (.ref d), some (.int m), none, none, none] ∧ Deal H1 d l s n ls ∧ ls.length = mm ∧ (∀ b, b ≠ d → b ≠ l → H1 b = H b), ?_, ?_⟩
      · obtain ⟨s, n, ls, h⟩ := hD
        exact ⟨_, s, n, ls, rfl, h, rfl, fun _ _ _ => rfl⟩
      · rintro mm σ H1 ⟨s, n, ls, rfl, D, el, fr⟩
        refine ⟨.ref d, rfl, d, .int n, rfl, D.g_number, rfl, _, rfl, ite2 (fun e => ?_) (fun e => ⟨s, n, ls, rfl, D, fr⟩)⟩
        refine ⟨.ref d, rfl, d, .ref l, rfl, D.g_left, l, ls.map V.int, rfl, .inl (SqL.of D.hl), _, _, rfl, rfl, _, rfl, ite2 (fun e2 => ?_) (fun e2 => ⟨s, n, ls, rfl, D, fr⟩)⟩
        refine ⟨_, fun σ' H' h => h, ?_⟩
        have hls : ls ≠ [] := fun z => by
          subst z
          exact absurd (of_decide_eq_true e2) (by simp)
        obtain ⟨y, y0, hy⟩ := D.last hls
        refine ⟨.ref d, rfl, d, .ref l, rfl, D.g_left, .inl ⟨rfl, _, SqL.of D.hl⟩, l, _, _, rfl, rfl, D.hl, hy, .ref d, rfl, d, _, rfl, (D.pop hls).p_number _, ls.length - 1, ?_, s, y, ls.dropLast, rfl, (D.pop hls).with_number (by omega), List.length_dropLast, fun b h1 h2 => ?_⟩
        · have : 0 < ls.length := List.length_pos_iff.mpr hls
          omega
        · rw [upd_ne h1, upd_ne h2]
          exact fr b h1 h2
    · rintro σ H1 ⟨s, n, ls, rfl, D, fr⟩
      refine ⟨.ref d, rfl, d, .int n, rfl, D.g_number, ?_⟩
      refine ⟨.int n, rfl, n, 0, rfl, rfl, _, rfl, ite2 (fun e => ?_) (fun e => ?_)⟩
      · have hn : 0 < n := of_decide_eq_true e
        refine ⟨.int n, rfl, .int m, rfl, n, m, rfl, rfl, ⟨by omega, by omega⟩, .ref d, rfl, d, _, rfl, D.p_number _, ?_⟩
        refine ⟨.int n, rfl, .int m, rfl, n, m, rfl, rfl, by omega, ?_⟩
        have e1 : n.fmod m = n % m := Int.fmod_eq_emod_of_nonneg n (by omega)
        have e2 : n.fdiv m = n / m := Int.fdiv_eq_ediv_of_nonneg n (by omega)
        show Q (.int (n.fmod m)) (upd H1 d (.dK (dealD s (n.fdiv m) l)))
        rw [e1, e2]
        exact q _ _ (Int.emod_nonneg _ (by omega)) (Int.emod_lt_of_pos _ m0) ⟨_, _, _, D.with_number (Int.ediv_nonneg (by omega) (by omega))⟩ (Kp.of_draw fun b h1 h2 => by rw [upd_ne h1]; exact fr b h1 h2)
      · have fm : ∀ x k : Int, 0 < k → 0 ≤ x.fmod k ∧ x.fmod k < k := fun x k hk => by
          rw [Int.fmod_eq_emod_of_nonneg x (by omega)]
          exact ⟨Int.emod_nonneg _ (by omega), Int.emod_lt_of_pos _ hk⟩
        have z0 := D.s0
        have z1 := D.s1
        have b1 := fm (s * 48271 + 7919) 2147483647 (by omega)
        obtain ⟨one, hone⟩ : ∃ x, x = (s * 48271 + 7919).fmod 2147483647 := ⟨_, rfl⟩
        rw [← hone] at b1
        refine ⟨.ref d, rfl, d, .int s, rfl, D.g_seed, _, _, rfl, rfl, .inl ⟨by omega, by omega⟩, _, _, rfl, rfl, _, _, rfl, rfl, by dsimp only; decide, ?_⟩
        have b2 := fm (one * 40692 + 104729) 2147483399 (by omega)
        refine ⟨.int one, by rw [hone]; rfl, _, _, rfl, rfl, .inl ⟨by omega, by omega⟩, _, _, rfl, rfl, _, _, rfl, rfl, by dsimp only; decide, .ref d, rfl, d, _, rfl, D.p_seed _, ?_⟩
        have D2 := D.with_seed (m := (one * 40692 + 104729).fmod 2147483399) b2.1 (by omega)
        have b4 := fm (one * one) 2147483629 (by omega)
        refine ⟨.ref d, rfl, d, _, rfl, D2.g_seed, .ref d, rfl, d, _, rfl, D2.g_seed, _, _, rfl, rfl, .inl ⟨by omega, by omega⟩, _, _, rfl, rfl, by dsimp only; decide, ?_⟩
        refine ⟨.int one, by rw [hone]; rfl, .int one, by rw [hone]; rfl, _, _, rfl, rfl, .inl ⟨by omega, by omega⟩, _, _, rfl, rfl, by dsimp only; decide, _, _, rfl, rfl, .inl ⟨by omega, by omega⟩, _, rfl, _, _, rfl, rfl, .int m, rfl, _, _, rfl, rfl, by dsimp only; omega, ?_⟩
        exact q _ _ (fm _ m m0).1 (fm _ m m0).2 ⟨_, _, _, D2⟩ (Kp.of_draw fun b h1 h2 => by rw [upd_ne h1]; exact fr b h1 h2)

/-! ### the deal -/
theorem ok_deal {k : Nat} (T : Txt K mg) : FnOk P w K mg base CX0 (k + 1) T.f__law_deal T.fd__law_deal ["_law_script", "_law_base"] (sp_deal K) := by
  refine T.F__law_deal.ok sc__law_deal (fun vs H Q E h => ?_) (fun cdv A outer s H vs Q E hr h => ?_)
  · obtain ⟨a, ns, b, rfl, _⟩ := h
    rfl
  · obtain ⟨a, ns, b, rfl, hS, hlen, b0, b1, q⟩ := h
    refine ⟨_, (pss_cons (ps_setLc (i := 2) (own := [("_law_one", 3)]) (g := gName 3) (tt := tYes) rfl sc__law_deal.nd rfl rfl (sw_true rfl rfl rfl (by decide +kernel)) (pi_listK (K := K) (pe_slice (sl_listK (K := K)) (pv 0) (po_some (pv 1)) (po_some pe_int))) (blkOk_by (own := [("_law_one", 3)]) (N := nm__law_deal) (sc := defScope st__law_deal) (by decide +kernel)) (fun _ _ _ _ _ => (pg_name (i := 3) sc__law_deal.nd rfl (Or.inl rfl))) (fun _ _ _ _ _ => pts_nil) (fun _ _ _ _ _ => (pe_callB (call_max2 rfl) (by rfl) T.z_max bt_max (pa_cons (pv 3) (pa_cons (pe_op op_sub pe_int (pv 3)) pa_nil)))))
      (pss_cons (ps_set (i := 4) sc__law_deal.nd rfl (Or.inl rfl) (pe_op op_add pe_int (pv 1)))
      (Evl.pss_cut (ps_for PassesOwn.never rfl (pi_listK (K := K) (pv 2)) (pg_name (i := 3) sc__law_deal.nd rfl (Or.inl rfl))
        (pss_one (ps_set (i := 4) sc__law_deal.nd rfl (Or.inl rfl) (pe_op op_modN (pe_op op_add (pe_op op_mul (pv 4) pe_int) (pe_op op_modN (pv 3) pe_int)) pe_int))))
      (pss_one (ps_ret (pe_disp (pps_cons pe_str (pv 4) (pps_cons pe_str pe_int (pps_cons pe_str (pe_listRev (K := K) rfl (by rfl) T.z_list (by rfl) T.z_reversed (pe_lc (own := [("_law_one", 3)]) (g := gName 3) rfl sc__law_deal.nd (pi_listK (K := K) (pv 2)) (blkOk_by (own := [("_law_one", 3)]) (N := nm__law_deal) (sc := defScope st__law_deal) (by decide +kernel)) (fun _ _ _ _ _ => (pg_name (i := 3) sc__law_deal.nd rfl (Or.inl rfl))) (fun _ _ _ _ _ => (pts_one (pt_cmpR op_ge (pv 3) (pe_op op_pow pe_int pe_int) (nomark _)))) (fun _ _ _ _ _ => (pv 3)))) pps_nil))) (by rfl) (by rfl) (fun z => by cases z) (by decide))))))), ?_⟩
    refine ⟨.ref a, rfl, .int b, rfl, b, rfl, 63, rfl, a, _, rfl, hS, fun p np => ⟨p, rfl, ⟨_, SqL.of upd_same⟩, fun D nD => ?_⟩⟩
    obtain ⟨ms, ems, lms⟩ := cut_ints ns (some b) (some 63)
    rw [ems] at nD ⊢
    have x0 : Ex H (upd H p (.lst (ms.map V.int))) := Evl.Ex.new np
    have hDp : D ≠ p := fun e => by rw [e, upd_same] at nD; cases nD
    have nDH : H D = none := Evl.fresh_back x0 nD
    refine lc_list (K := K) (a := p) (xs := ms.map V.int) (fun i H' => Ex H H' ∧ H' p = some (.lst (ms.map V.int)) ∧ ∃ bs : List Int, bs.length = i ∧ H' D = some (.lst (bs.map V.int))) ⟨x0.trans (Evl.Ex.new nD), by rw [upd_ne hDp.symm, upd_same], [], rfl, upd_same⟩ (fun i H' _ h => SqL.of h.2.1) (fun i x H' hx h => ?_) (fun H' h => ?_)
    · obtain ⟨x1, hp, bs, el, hb⟩ := h
      obtain ⟨z, rfl⟩ : ∃ z, x = .int z := by
        rw [List.getElem?_map] at hx
        obtain ⟨z, _, e⟩ := Option.map_eq_some_iff.mp hx
        exact ⟨z, e.symm⟩
      have hi : i < ms.length := by
        have := (List.getElem?_eq_some_iff.mp hx).1
        rw [List.length_map] at this
        exact this
      refine ⟨rfl, .int z, rfl, _, rfl, _, _, rfl, rfl, _, _, rfl, bs.map V.int, hb, small1000 (by rw [List.length_map]; omega), Evl.Ex.mut x1 nDH, by rw [upd_ne hDp.symm]; exact hp, bs ++ [_], by rw [List.length_append, el]; rfl, by rw [upd_same, List.map_append]; rfl⟩
    · obtain ⟨x1, hp, bs, el, hb⟩ := h
      rw [List.length_map] at el
      refine ⟨.int b, rfl, _, _, rfl, rfl, ?_⟩
      refine ⟨fun σ H3 => ∃ n, σ = [some (.ref a), some (.int b), some (.ref D), σ.getD 3 none, some (.int n)] ∧ 0 ≤ n ∧ n < 2147483648 ∧ H3 = H', ?_, ?_⟩
      · refine ⟨.ref D, rfl, D, rfl, ⟨_, SqL.of hb⟩, for_list (K := K) (a := D) (xs := bs.map V.int) (fun i σ H3 => ∃ n, σ = [some (.ref a), some (.int b), some (.ref D), σ.getD 3 none, some (.int n)] ∧ 0 ≤ n ∧ n < 2147483648 ∧ H3 = H') ⟨7919 + b, rfl, by omega, by omega, rfl⟩ (fun i σ H3 _ h => ?_) (fun i x σ H3 hx h => ?_) (fun σ H3 h => h)⟩
        · obtain ⟨n, _, _, _, rfl⟩ := h
          exact SqL.of hb
        · obtain ⟨n, e, n0, n1, rfl⟩ := h
          generalize σ.getD 3 none = y at e
          subst e
          obtain ⟨z, rfl⟩ : ∃ z, x = .int z := by
            rw [List.getElem?_map] at hx
            obtain ⟨z, _, e⟩ := Option.map_eq_some_iff.mp hx
            exact ⟨z, e.symm⟩
          refine ⟨.int n, rfl, _, _, rfl, rfl, .inl ⟨by omega, by omega⟩, .int z, rfl, _, _, rfl, rfl, by dsimp only; decide, _, _, rfl, rfl, _, _, rfl, rfl, by dsimp only; decide, ?_⟩
          exact ⟨_, rfl, (fmod_in _ _ (by decide)).1, Int.lt_trans (fmod_in _ 2147483647 (by decide)).2 (by decide), rfl⟩
      · rintro σ H3 ⟨n, e, n0, n1, rfl⟩
        generalize σ.getD 3 none = y at e
        subst e
        -- the dict
        intro d nd
        have ndH : H d = none := Evl.fresh_back x1 nd
        have hdD : D ≠ d := ne_of_none hb nd
        refine ⟨.int n, rfl, ?_⟩
        refine ⟨.ref D, rfl, D, rfl, ⟨_, SqL.of (by rw [upd_ne hdD]; exact hb)⟩, fun D2 nD2 => ?_⟩
        have hdD2 : D2 ≠ d := fun e => by rw [e, upd_same] at nD2; cases nD2
        have nD2H : H3 D2 = none := by rw [upd_ne hdD2] at nD2; exact nD2
        have hDD2 : D ≠ D2 := ne_of_none hb nD2H
        refine lc_list (K := K) (a := D) (xs := bs.map V.int) (fun i H' => Ex H H' ∧ H' D = some (.lst (bs.map V.int)) ∧ H' d = some (.dK []) ∧ ∃ cs : List Int, cs.length ≤ i ∧ (∀ x ∈ cs, 0 < x) ∧ H' D2 = some (.lst (cs.map V.int))) ⟨Evl.Ex.mut (Evl.Ex.mut x1 ndH) (Evl.fresh_back x1 nD2H), by rw [upd_ne hDD2, upd_ne hdD]; exact hb, by rw [upd_ne hdD2.symm, upd_same], [], by simp, fun x hx => by simp at hx, upd_same⟩ (fun i H' _ h => SqL.of h.2.1) (fun i x H' hx h => ?_) (fun H' h => ?_)
        · obtain ⟨x2, hb2, hd2, cs, lc, pc, hc⟩ := h
          obtain ⟨z, rfl⟩ : ∃ z, x = .int z := by
            rw [List.getElem?_map] at hx
            obtain ⟨z, _, e⟩ := Option.map_eq_some_iff.mp hx
            exact ⟨z, e.symm⟩
          have hi : i < bs.length := by
            have := (List.getElem?_eq_some_iff.mp hx).1
            rw [List.length_map] at this
            exact this
          refine ⟨rfl, .int z, rfl, _, _, rfl, rfl, ⟨by decide, by decide, by decide⟩, _, _, rfl, rfl, _, rfl, ite2 (fun e => ?_) (fun e => ?_)⟩
          · have hz : (10 : Int) ^ (18 : Int).toNat ≤ z := of_decide_eq_true e
            have hz0 : 0 < z := Int.lt_of_lt_of_le (by decide) hz
            refine ⟨.int z, rfl, cs.map V.int, hc, small1000 (by rw [List.length_map]; omega), Evl.Ex.mut x2 (Evl.fresh_back x1 nD2H), by rw [upd_ne hDD2]; exact hb2, by rw [upd_ne hdD2.symm]; exact hd2, cs ++ [z], by rw [List.length_append]; show cs.length + 1 ≤ i + 1; omega, fun x hx => ?_, by rw [upd_same, List.map_append]; rfl⟩
            rcases List.mem_append.mp hx with h | h
            · exact pc x h
            · rw [List.mem_singleton.mp h]; exact hz0
          · exact ⟨x2, hb2, hd2, cs, by omega, pc, hc⟩
        · obtain ⟨x2, hb2, hd2, cs, lc, pc, hc⟩ := h
          rw [List.length_map] at lc
          refine ⟨D2, _, rfl, SqL.of hc, fun l nl => ?_⟩
          have hdl : d ≠ l := ne_of_none hd2 nl
          refine ⟨by rw [upd_ne hdl]; exact hd2, dealD n 0 l, rfl, by show 3 ≤ 15; decide, ?_⟩
          rw [merge_deal]
          refine q d l _ (Evl.Ex.mut (Evl.Ex.mut x2 (Evl.fresh_back x2 nl)) ndH) ndH (Evl.fresh_back x2 nl) ⟨n, 0, cs.reverse, upd_same, ?_, n0, n1, by omega, fun x hx => pc x (List.mem_reverse.mp hx), by rw [List.length_reverse]; omega⟩
          rw [upd_ne hdl.symm, upd_same, List.map_reverse]

/-! ### drawn programs: small numbers, sums -/
theorem ok_small {k : Nat} (T : Txt K mg) : FnOk P w K mg base CX0 (k + 2) T.f__law_small T.fd__law_small ["_law_deal_here"] sp_small := by
  have G__law_draw : FnOk P w K mg base CX0 1 T.f__law_draw T.fd__law_draw ["_law_deal_here", "_law_many"] sp_draw := ok_draw T
  refine T.F__law_small.ok sc__law_small (fun vs H Q E h => ?_) (fun cdv A outer s H vs Q E hr h => ?_)
  · obtain ⟨d, l, rfl, _⟩ := h
    rfl
  · obtain ⟨d, l, rfl, D, q⟩ := h
    refine ⟨_, (pss_cons (ps_set (i := 1) sc__law_small.nd rfl (Or.inl rfl) (pe_lst (pa_cons pe_int (pa_cons pe_int (pa_cons pe_int (pa_cons (pe_op op_sub pe_int pe_int) (pa_cons pe_int (pa_cons (pe_op op_sub pe_int pe_int) (pa_cons pe_int (pa_cons (pe_op op_sub (pe_call G__law_draw (hr.mono (by omega)) (by rfl) T.g__law_draw T.F__law_draw.kp T.b__law_draw .nil pass0 (pa_cons (pv 0) (pa_cons pe_int pa_nil))) pe_int) pa_nil))))))))))
      (pss_one (ps_ret (pe_ix (ix_listK (K := K)) (pv 1) (pe_call G__law_draw (hr.mono (by omega)) (by rfl) T.g__law_draw T.F__law_draw.kp T.b__law_draw .nil pass0 (pa_cons (pv 0) (pa_cons pe_int pa_nil))) (fun _ _ => rfl))))), ?_⟩
    refine ⟨_, _, rfl, rfl, _, _, rfl, rfl, .ref d, rfl, d, l, 19, rfl, D, by decide, by decide, fun r H1 r0 r1 D1 k1 => ⟨_, _, rfl, rfl, by show 8 ≤ sizeLine; decide, fun p np => ?_⟩⟩
    obtain ⟨n1, n2⟩ := D1.nd np
    refine ⟨.ref p, rfl, .ref d, rfl, d, l, 8, rfl, D1.upd n1 n2, by decide, by decide, fun r2 H2 s0 s1 D2 k2 => ?_⟩
    obtain ⟨v, ev, hv⟩ := at_in (xs := [.int 0, .int 1, .int 1, .int (0 - 1), .int 2, .int (0 - 2), .int 3, .int (r - 9)]) s0 (by simpa using s1)
    obtain ⟨y, rfl, y0, y1⟩ : ∃ y, v = .int y ∧ -9 ≤ y ∧ y ≤ 9 := by
      simp only [List.mem_cons, List.not_mem_nil, or_false] at hv
      rcases hv with rfl | rfl | rfl | rfl | rfl | rfl | rfl | rfl <;> exact ⟨_, rfl, by omega, by omega⟩
    exact ⟨p, _, r2, _, rfl, rfl, SqL.of (k2 p _ n1 n2 upd_same), ev, q _ _ y0 y1 D2 ((k1.trans (Kp.of_ex (Evl.Ex.new np))).trans k2)⟩

theorem len_set_ints {ns : List Int} {j : Nat} {y : Int} : ((ns.map V.int).set j (.int y)) = (ns.set j y).map V.int := (List.map_set ..).symm
theorem rep0 (k : Nat) : (List.replicate k [V.int 0]).flatten = (List.replicate k (0 : Int)).map V.int := by
  have := rep_zero [] k
  simpa using this
theorem ixN_in {n : Nat} {r : Int} (h0 : 0 ≤ r) (h1 : r < n) : ixN n r = some r.toNat := by
  unfold ixN
  rw [if_pos h0, if_pos h1]
theorem in_set {ns : List Int} {j : Nat} {y : Int} {C : Int → Prop} (h : ∀ x ∈ ns, C x) (hy : C y) : ∀ x ∈ ns.set j y, C x := fun x hx => by
  rcases List.mem_or_eq_of_mem_set hx with h1 | h1
  · exact h x h1
  · rw [h1]; exact hy
theorem ok_sum {k : Nat} (T : Txt K mg) : FnOk P w K mg base CX0 (k + 3) T.f__law_sum T.fd__law_sum ["_law_deal_here", "_law_n"] (sp_sum K) := by
  have G__law_draw : FnOk P w K mg base CX0 1 T.f__law_draw T.fd__law_draw ["_law_deal_here", "_law_many"] sp_draw := ok_draw T
  have G__law_small : FnOk P w K mg base CX0 2 T.f__law_small T.fd__law_small ["_law_deal_here"] sp_small := ok_small T
  refine T.F__law_sum.ok sc__law_sum (fun vs H Q E h => ?_) (fun cdv A outer s H vs Q E hr h => ?_)
  · obtain ⟨d, l, n, F, rfl, _⟩ := h
    rfl
  · obtain ⟨d, l, n, F, rfl, W, hn, q⟩ := h
    refine ⟨_, (pss_cons (ps_set (i := 2) sc__law_sum.nd rfl (Or.inl rfl) (pe_call G__law_draw (hr.mono (by omega)) (by rfl) T.g__law_draw T.F__law_draw.kp T.b__law_draw .nil pass0 (pa_cons (pv 0) (pa_cons pe_int pa_nil))))
      (pss_cons (ps_set (i := 3) sc__law_sum.nd rfl (Or.inl rfl) (pe_op op_rep (pe_lst (pa_cons pe_int pa_nil)) (pe_op op_add (pv 1) pe_int)))
      (Evl.pss_cut (ps_for PassesOwn.never rfl (pi_range1 (by rfl) T.z_range (pa_cons (pe_ix (ix_listK (K := K)) (pe_lst (pa_cons pe_int (pa_cons pe_int (pa_cons pe_int (pa_cons (pe_op op_add (pv 1) pe_int) pa_nil))))) (pv 2) (fun _ _ => rfl)) pa_nil)) (pg_name (i := 4) sc__law_sum.nd rfl (Or.inl rfl))
        (pss_one (ps_asg (pe_call G__law_small (hr.mono (by omega)) (by rfl) T.g__law_small T.F__law_small.kp T.b__law_small .nil pass0 (pa_cons (pv 0) pa_nil)) (pg_sub (pv 3) (pe_call G__law_draw (hr.mono (by omega)) (by rfl) T.g__law_draw T.F__law_draw.kp T.b__law_draw .nil pass0 (pa_cons (pv 0) (pa_cons (pe_op op_add (pv 1) pe_int) pa_nil))) set_list))))
      (Evl.pss_cut (ps_if (PW.pt (pw_and (pt_cmpR op_gt (pv 1) pe_int (nomark _)) (pw_and1 (pt_cmpR op_eq (pv 2) pe_int (nomark _))))) (pss_one (ps_asg pe_int (pg_sub (pv 3) (pe_op op_add pe_int (pe_call G__law_draw (hr.mono (by omega)) (by rfl) T.g__law_draw T.F__law_draw.kp T.b__law_draw .nil pass0 (pa_cons (pv 0) (pa_cons (pv 1) pa_nil)))) set_list))) pss_nil)
      (pss_one (ps_ret (pe_callTy (call_tupleK (K := K)) (by rfl) T.z_tuple bt_tuple (pa_cons (pv 3) pa_nil)))))))), ?_⟩
    refine ⟨.ref d, rfl, d, l, 4, rfl, W.deal, by decide, by decide, fun form H1 f0 f1 D1 k1 => ?_⟩
    have g1 := (Go.refl W).draw D1 k1
    refine ⟨by show 1 ≤ sizeLine; decide, fun p0 np0 => ⟨.int n, rfl, _, _, rfl, rfl, p0, _, _, rfl, rfl, upd_same, by omega, by omega, ?_, fun pf npf => ?_⟩⟩
    · have h9 : ((n : Int) + 1).toNat ≤ 1000 := by omega
      have := small1000 h9
      show 1 * ((n : Int) + 1).toNat ≤ sizeLine
      omega
    have g2 : Go d l F H F _ := g1.newm (p := p0) (o := .lst [.int 0]) np0
    have m3 := Own.new (o := .lst (List.replicate ((n : Int) + 1).toNat [V.int 0]).flatten) g2.w npf
    have g3 : Go d l F H F _ := g2.newm (p := pf) (o := .lst (List.replicate ((n : Int) + 1).toNat [V.int 0]).flatten) npf
    have npH : H pf = none := g2.none W npf
    rw [rep0] at m3 g3 ⊢
    have e1 : ((n : Int) + 1).toNat = n + 1 := by omega
    rw [e1] at m3 g3 ⊢
    generalize upd (upd H1 p0 (.lst [.int 0])) pf (.lst ((List.replicate (n + 1) (0 : Int)).map V.int)) = H3 at m3 g3 ⊢
    refine ⟨fun σ H' => ∃ (ns : List Int) (y4 : Option V), σ = [some (.ref d), some (.int n), some (.int form), some (.ref pf), y4] ∧ Go d l F H F H' ∧ Own d l F H' pf (.lst (ns.map V.int)) ∧ ns.length = n + 1 ∧ (∀ x ∈ ns, -9 ≤ x ∧ x ≤ 9), ?_, ?_⟩
    · refine ⟨.int n, rfl, _, _, rfl, rfl, by show 4 ≤ sizeLine; decide, fun pl npl => ?_⟩
      obtain ⟨v, ev, hv⟩ := at_in (xs := [.int 1, .int 2, .int 2, .int ((n : Int) + 1)]) f0 (by simpa using f1)
      obtain ⟨y, rfl, y0, y1⟩ : ∃ y, v = .int y ∧ 0 ≤ y ∧ y ≤ 101 := by
        simp only [List.mem_cons, List.not_mem_nil, or_false] at hv
        rcases hv with rfl | rfl | rfl | rfl <;> exact ⟨_, rfl, by omega, by omega⟩
      refine ⟨.int form, rfl, pl, _, form, _, rfl, rfl, SqL.of upd_same, ev, _, rfl, by omega, by omega, ?_⟩
      have g4 := g3.newm (p := pl) (o := .lst [.int 1, .int 2, .int 2, .int ((n : Int) + 1)]) npl
      have m4 := m3.freshm (u := .lst [.int 1, .int 2, .int 2, .int ((n : Int) + 1)]) npl
      generalize upd H3 pl (.lst [.int 1, .int 2, .int 2, .int ((n : Int) + 1)]) = H4 at g4 m4 ⊢
      refine for_range (fun i σ H' => ∃ (ns : List Int) (y4 : Option V), σ = [some (.ref d), some (.int n), some (.int form), some (.ref pf), y4] ∧ Go d l F H F H' ∧ Own d l F H' pf (.lst (ns.map V.int)) ∧ ns.length = n + 1 ∧ (∀ x ∈ ns, -9 ≤ x ∧ x ≤ 9)) ⟨_, _, rfl, g4, m4, List.length_replicate, fun x hx => by rw [List.eq_of_mem_replicate hx]; decide⟩ (fun i σ H' hi h => ?_) (fun σ H' h => h)
      obtain ⟨ns, y4, rfl, g5, m5, ln, hns⟩ := h
      refine ⟨.ref d, rfl, d, l, rfl, g5.deal, fun x H6 x0 x1 D6 k6 => ?_⟩
      have g6 := g5.draw D6 k6
      have m6 := m5.draw k6
      refine ⟨.ref pf, rfl, .ref d, rfl, .int n, rfl, _, _, rfl, rfl, d, l, _, rfl, g6.deal, by omega, by omega, fun r H7 r0 r1 D7 k7 => ?_⟩
      have g7 := g6.draw D7 k7
      have m7 := m6.draw k7
      refine ⟨pf, _, r, r.toNat, rfl, rfl, m7.h, ixN_in r0 (by rw [List.length_map, ln]; omega), ns.set r.toNat x, _, rfl, g7.mut npH m7, ?_, by rw [List.length_set]; exact ln, in_set hns ⟨x0, x1⟩⟩
      rw [len_set_ints]
      exact m7.put
    · rintro σ H5 ⟨ns, y4, rfl, g5, m5, ln, hns⟩
      refine ⟨fun σ H' => ∃ (ns : List Int) (y4 : Option V), σ = [some (.ref d), some (.int n), some (.int form), some (.ref pf), y4] ∧ Go d l F H F H' ∧ Own d l F H' pf (.lst (ns.map V.int)) ∧ ns.length = n + 1 ∧ (∀ x ∈ ns, -9 ≤ x ∧ x ≤ 9), ?_, ?_⟩
      · refine ⟨.int n, rfl, _, _, rfl, rfl, _, rfl, ite2 (fun e => ?_) (fun e => ⟨ns, _, rfl, g5, m5, ln, hns⟩)⟩
        have hn0 : 0 < (n : Int) := of_decide_eq_true e
        refine ⟨.int form, rfl, rfl, _, rfl, ite2 (fun e => ?_) (fun e => ⟨ns, _, rfl, g5, m5, ln, hns⟩)⟩
        refine ⟨.ref pf, rfl, .ref d, rfl, .int n, rfl, d, l, _, rfl, g5.deal, by omega, by omega, fun r H7 r0 r1 D7 k7 => ?_⟩
        have g7 := g5.draw D7 k7
        have m7 := m5.draw k7
        refine ⟨_, _, rfl, rfl, pf, _, 1 + r, (1 + r).toNat, rfl, rfl, m7.h, ixN_in (by omega) (by rw [List.length_map, ln]; omega), ns.set (1 + r).toNat 1, _, rfl, g7.mut npH m7, ?_, by rw [List.length_set]; exact ln, in_set hns (by decide)⟩
        rw [len_set_ints]
        exact m7.put
      · rintro σ H6 ⟨ns, y4, rfl, g6, m6, ln, hns⟩
        refine ⟨.ref pf, rfl, pf, _, rfl, .inl ⟨m6.L, fun t nt => ?_⟩⟩
        exact q _ _ _ ns (g6.new nt) (Dp.of_ti (SqT.of upd_same)) ln hns
theorem ok_goings {k : Nat} (T : Txt K mg) : FnOk P w K mg base CX0 (k + 2) T.f__law_goings T.fd__law_goings ["_law_deal_here", "_law_at", "_law_many"] (sp_goings K) := by
  have G__law_draw : FnOk P w K mg base CX0 1 T.f__law_draw T.fd__law_draw ["_law_deal_here", "_law_many"] sp_draw := ok_draw T
  refine T.F__law_goings.ok sc__law_goings (fun vs H Q E h => ?_) (fun cdv A outer s H vs Q E hr h => ?_)
  · obtain ⟨d, l, n, m, F, rfl, _⟩ := h
    rfl
  · obtain ⟨d, l, at_, many, F, rfl, W, ha, hm, q⟩ := h
    refine ⟨_, (pss_cons (ps_set (i := 3) sc__law_goings.nd rfl (Or.inl rfl) (pe_call G__law_draw (hr.mono (by omega)) (by rfl) T.g__law_draw T.F__law_draw.kp T.b__law_draw .nil pass0 (pa_cons (pv 0) (pa_cons pe_int pa_nil))))
      (pss_cons (ps_set (i := 4) sc__law_goings.nd rfl (Or.inl rfl) (pe_lst (pa_cons (pe_op op_add (pv 1) pe_int) pa_nil)))
      (Evl.pss_cut (ps_if (pt_cmpR op_eq (pv 3) pe_int (nomark _)) (pss_one (ps_set (i := 4) sc__law_goings.nd rfl (Or.inl rfl) (pe_lst pa_nil))) pss_nil)
      (Evl.pss_cut (ps_for PassesOwn.never rfl (pi_range1 (by rfl) T.z_range (pa_cons (pe_ix (ix_listK (K := K)) (pe_lst (pa_cons pe_int (pa_cons pe_int (pa_cons pe_int (pa_cons pe_int (pa_cons pe_int (pa_cons pe_int pa_nil))))))) (pv 3) (fun _ _ => rfl)) pa_nil)) (pg_name (i := 5) sc__law_goings.nd rfl (Or.inl rfl))
        (pss_one (ps_expr (pe_bmK (K := K) PySem.F.plainAttrs_list PySem.F.slot_list_append PySem.F.type_list_append mt_append (pv 4) (pa_cons (pe_call G__law_draw (hr.mono (by omega)) (by rfl) T.g__law_draw T.F__law_draw.kp T.b__law_draw .nil pass0 (pa_cons (pv 0) (pa_cons (pe_op op_add (pv 2) pe_int) pa_nil))) pa_nil)))))
      (pss_one (ps_ret (pe_callTy (call_tupleK (K := K)) (by rfl) T.z_tuple bt_tuple (pa_cons (pe_callB (cr_sortedSet rfl) (by rfl) T.z_sorted bt_sorted (pa_cons (pe_callTy (cr_setL (K := K) rfl) (by rfl) T.z_set bt_set (pa_cons (pv 4) pa_nil)) pa_nil)) pa_nil)))))))), ?_⟩
    refine ⟨.ref d, rfl, d, l, 6, rfl, W.deal, by decide, by decide, fun form H1 f0 f1 D1 k1 => ?_⟩
    have g1 := (Go.refl W).draw D1 k1
    refine ⟨.int at_, rfl, _, _, rfl, rfl, by show 1 ≤ sizeLine; decide, fun p0 np0 => ?_⟩
    have m2 := Own.new (o := .lst [.int ((at_ : Int) + 1)]) g1.w np0
    have g2 : Go d l F H F _ := g1.newm (p := p0) (o := .lst [.int ((at_ : Int) + 1)]) np0
    have np0H : H p0 = none := g1.none W np0
    generalize upd H1 p0 (.lst [.int ((at_ : Int) + 1)]) = H2 at m2 g2 ⊢
    refine ⟨fun σ H' => ∃ (pf : Addr) (ns : List Int), σ = [some (.ref d), some (.int at_), some (.int many), some (.int form), some (.ref pf), none] ∧ Go d l F H F H' ∧ H pf = none ∧ Own d l F H' pf (.lst (ns.map V.int)) ∧ ns.length ≤ 1 ∧ (form ≠ 0 → 1 ≤ ns.length) ∧ (∀ x ∈ ns, 0 ≤ x ∧ x ≤ many), ?_, ?_⟩
    · refine ⟨.int form, rfl, rfl, _, rfl, ite2 (fun e => ?_) (fun e => ⟨p0, [(at_ : Int) + 1], rfl, g2, np0H, m2, Nat.le_refl _, fun _ => Nat.le_refl _, fun x hx => ?_⟩)⟩
      · refine ⟨Nat.zero_le _, fun p1 np1 => ⟨p1, [], rfl, g2.newm np1, g2.none W np1, Own.new g2.w np1, Nat.zero_le _, fun h => absurd (V.int.inj (of_decide_eq_true e)) h, fun x hx => by cases hx⟩⟩
      · rw [List.mem_singleton.mp hx]
        omega
    · rintro σ H3 ⟨pf, ns, rfl, g3, npf, m3, ln, ln0, hns⟩
      refine ⟨fun σ H' => ∃ (ns : List Int) (y : Option V), σ = [some (.ref d), some (.int at_), some (.int many), some (.int form), some (.ref pf), y] ∧ Go d l F H F H' ∧ Own d l F H' pf (.lst (ns.map V.int)) ∧ 1 ≤ ns.length ∧ ns.length ≤ 3 ∧ (∀ x ∈ ns, 0 ≤ x ∧ x ≤ many), ?_, ?_⟩
      · refine ⟨by show 6 ≤ sizeLine; decide, fun pl npl => ?_⟩
        obtain ⟨v, ev, hv⟩ := at_in (xs := [.int 1, .int 0, .int 0, .int 1, .int 1, .int 2]) f0 (by simpa using f1)
        obtain ⟨y, rfl, y0, y1, y2⟩ : ∃ y, v = .int y ∧ 0 ≤ y ∧ y ≤ 2 ∧ (form = 0 → y = 1) := by
          simp only [List.mem_cons, List.not_mem_nil, or_false] at hv
          rcases hv with rfl | rfl | rfl | rfl | rfl | rfl <;> refine ⟨_, rfl, by omega, by omega, fun e => ?_⟩ <;> (subst e; revert ev; decide)
        refine ⟨.int form, rfl, pl, _, form, _, rfl, rfl, SqL.of upd_same, ev, _, rfl, by omega, by omega, ?_⟩
        have g4 := g3.newm (p := pl) (o := .lst [.int 1, .int 0, .int 0, .int 1, .int 1, .int 2]) npl
        have m4 := m3.freshm (u := .lst [.int 1, .int 0, .int 0, .int 1, .int 1, .int 2]) npl
        generalize upd H3 pl (.lst [.int 1, .int 0, .int 0, .int 1, .int 1, .int 2]) = H4 at g4 m4 ⊢
        refine for_range (fun i σ H' => ∃ (ms : List Int) (y : Option V), σ = [some (.ref d), some (.int at_), some (.int many), some (.int form), some (.ref pf), y] ∧ Go d l F H F H' ∧ Own d l F H' pf (.lst (ms.map V.int)) ∧ ms.length = ns.length + i ∧ (∀ x ∈ ms, 0 ≤ x ∧ x ≤ many)) ⟨ns, _, rfl, g4, m4, rfl, hns⟩ (fun i σ H' hi h => ?_) (fun σ H' h => ?_)
        · obtain ⟨ms, y4, rfl, g5, m5, lm, hms⟩ := h
          refine ⟨.ref pf, rfl, .inl ⟨rfl, _, m5.L⟩, .ref d, rfl, .int many, rfl, _, _, rfl, rfl, d, l, _, rfl, g5.deal, by omega, by omega, fun r H7 r0 r1 D7 k7 => ?_⟩
          have g7 := g5.draw D7 k7
          have m7 := m5.draw k7
          have hl : (ms.map V.int).length ≤ 1000 := by rw [List.length_map, lm]; omega
          refine ⟨pf, _, _, rfl, rfl, m7.h, small1000 hl, ms ++ [r], _, rfl, g7.mut npf m7, ?_, by rw [List.length_append, lm]; rfl, fun x hx => ?_⟩
          · rw [List.map_append]
            exact m7.put
          · rcases List.mem_append.mp hx with h | h
            · exact hms x h
            · rw [List.mem_singleton.mp h]; omega
        · obtain ⟨ms, y4, rfl, g5, m5, lm, hms⟩ := h
          refine ⟨ms, _, rfl, g5, m5, ?_, by omega, hms⟩
          by_cases e : form = 0
          · have := y2 e
            omega
          · have := ln0 e
            omega
      · rintro σ H5 ⟨ns, y, rfl, g5, m5, l1, l3, hns⟩
        refine ⟨.ref pf, rfl, pf, ns, rfl, m5.L, by omega, fun ps n nps hn => ?_⟩
        have g6 := g5.newm (p := ps) (o := SetO w ps (fun j => decide (j ∈ ns)) n) nps
        refine ⟨ps, _, n, rfl, upd_same, by omega, fun gs pg pw mem ln npg => ?_⟩
        have g7 := g6.newm (p := pg) (o := .lst (gs.map V.int)) npg
        refine ⟨pg, _, rfl, .inl ⟨SqL.of upd_same, fun t nt => ?_⟩⟩
        refine q _ _ _ gs (g7.new nt) (Dp.of_ti (SqT.of upd_same)) ⟨?_, by omega, pw, fun x hx => hns x (of_decide_eq_true ((mem x).mp hx))⟩
        cases ns with
        | nil => simp at l1
        | cons x r =>
          have : x ∈ gs := (mem x).mpr (decide_eq_true List.mem_cons_self)
          exact List.length_pos_of_mem this
theorem ok_deed {k : Nat} (T : Txt K mg) : FnOk P w K mg base CX0 (k + 4) T.f__law_deed T.fd__law_deed ["_law_deal_here", "_law_n", "_law_parts"] (sp_deed K) := by
  have G__law_draw : FnOk P w K mg base CX0 1 T.f__law_draw T.fd__law_draw ["_law_deal_here", "_law_many"] sp_draw := ok_draw T
  have G__law_sum : FnOk P w K mg base CX0 3 T.f__law_sum T.fd__law_sum ["_law_deal_here", "_law_n"] (sp_sum K) := ok_sum T
  refine T.F__law_deed.ok sc__law_deed (fun vs H Q E h => ?_) (fun cdv A outer s H vs Q E hr h => ?_)
  · obtain ⟨d, l, n, m, F, rfl, _⟩ := h
    rfl
  · obtain ⟨d, l, n, parts, F, rfl, W, hn, hp, q⟩ := h
    refine ⟨_, (pss_cons (ps_set (i := 3) sc__law_deed.nd rfl (Or.inl rfl) (pe_call G__law_draw (hr.mono (by omega)) (by rfl) T.g__law_draw T.F__law_draw.kp T.b__law_draw .nil pass0 (pa_cons (pv 0) (pa_cons pe_int pa_nil))))
      (Evl.pss_cut (ps_if (PW.pt (pw_and (pt_cmpR op_lt (pv 3) pe_int (nomark _)) (pw_and1 (pt_cmpR op_gt (pv 2) pe_int (nomark _))))) (pss_one (ps_ret (pe_tup (pa_cons pe_str (pa_cons (pe_call G__law_draw (hr.mono (by omega)) (by rfl) T.g__law_draw T.F__law_draw.kp T.b__law_draw .nil pass0 (pa_cons (pv 0) (pa_cons (pv 2) pa_nil))) pa_nil))))) pss_nil)
      (Evl.pss_cut (ps_if (PW.pt (pw_or (pt_cmpR op_eq (pv 3) pe_int (nomark _)) (pw_or1 (pt_cmpR op_eq (pv 1) pe_int (nomark _))))) (pss_one (ps_ret (pe_tup (pa_cons pe_str pa_nil)))) pss_nil)
      (pss_cons (ps_if (pt_cmpR op_eq (pv 3) pe_int (nomark _)) (pss_one (ps_ret (pe_tup (pa_cons pe_str (pa_cons (pe_call G__law_draw (hr.mono (by omega)) (by rfl) T.g__law_draw T.F__law_draw.kp T.b__law_draw .nil pass0 (pa_cons (pv 0) (pa_cons (pv 1) pa_nil))) pa_nil))))) pss_nil)
      (pss_one (ps_ret (pe_tup (pa_cons pe_str (pa_cons (pe_call G__law_draw (hr.mono (by omega)) (by rfl) T.g__law_draw T.F__law_draw.kp T.b__law_draw .nil pass0 (pa_cons (pv 0) (pa_cons (pv 1) pa_nil))) (pa_cons (pe_call G__law_sum (hr.mono (by omega)) (by rfl) T.g__law_sum T.F__law_sum.kp T.b__law_sum .nil pass0 (pa_cons (pv 0) (pa_cons (pv 1) pa_nil))) pa_nil)))))))))), ?_⟩
    refine ⟨.ref d, rfl, d, l, 9, rfl, W.deal, by decide, by decide, fun form H1 f0 f1 D1 k1 => ?_⟩
    have g1 := (Go.refl W).draw D1 k1
    refine ⟨fun σ H' => σ = [some (.ref d), some (.int n), some (.int parts), some (.int form)] ∧ H' = H1, ?_, ?_⟩
    · refine ⟨.int form, rfl, _, _, rfl, rfl, _, rfl, ite2 (fun e => ?_) (fun e => ⟨rfl, rfl⟩)⟩
      refine ⟨.int parts, rfl, _, _, rfl, rfl, _, rfl, ite2 (fun e => ?_) (fun e => ⟨rfl, rfl⟩)⟩
      have hp0 : 0 < (parts : Int) := of_decide_eq_true e
      refine ⟨.ref d, rfl, .int parts, rfl, d, l, _, rfl, g1.deal, by omega, by omega, fun r H7 r0 r1 D7 k7 => ⟨by show 2 ≤ sizeLine; decide, fun t nt => ?_⟩⟩
      have e1 : r = ((r.toNat : Nat) : Int) := by omega
      exact q _ _ _ (.call r.toNat) ((g1.draw D7 k7).new nt) (.tup (SqT.of upd_same) (.cons (.str _) (.cons (by rw [← e1]; exact .int _) .nil))) (by show r.toNat < parts; omega)
    rintro σ H2 ⟨rfl, rfl⟩
    refine ⟨fun σ H' => σ = [some (.ref d), some (.int n), some (.int parts), some (.int form)] ∧ H' = H2 ∧ 0 < n, ?_, ?_⟩
    · refine ⟨.int form, rfl, rfl, _, rfl, ite2 (fun e => iteT ⟨by show 1 ≤ sizeLine; decide, fun t nt => ?_⟩) (fun e => ?_)⟩
      · exact q _ _ _ .rest (g1.new nt) (.tup (SqT.of upd_same) (.cons (.str _) .nil)) trivial
      refine ⟨.int n, rfl, rfl, _, rfl, ite2 (fun e => ⟨by show 1 ≤ sizeLine; decide, fun t nt => ?_⟩) (fun e => ⟨rfl, rfl, ?_⟩)⟩
      · exact q _ _ _ .rest (g1.new nt) (.tup (SqT.of upd_same) (.cons (.str _) .nil)) trivial
      · have : ¬ ((n : Int) = 0) := fun h => e (decide_eq_true (by rw [h]))
        omega
    rintro σ H3 ⟨rfl, rfl, hn0⟩
    refine ⟨.int form, rfl, rfl, _, rfl, ite2 (fun e => ?_) (fun e => ?_)⟩
    · refine ⟨.ref d, rfl, .int n, rfl, d, l, _, rfl, g1.deal, by omega, by omega, fun r H7 r0 r1 D7 k7 => ⟨by show 2 ≤ sizeLine; decide, fun t nt => ?_⟩⟩
      have e1 : r = ((r.toNat : Nat) : Int) := by omega
      exact q _ _ _ (.any r.toNat) ((g1.draw D7 k7).new nt) (.tup (SqT.of upd_same) (.cons (.str _) (.cons (by rw [← e1]; exact .int _) .nil))) (by show r.toNat < n; omega)
    · refine ⟨.ref d, rfl, .int n, rfl, d, l, _, rfl, g1.deal, by omega, by omega, fun r H7 r0 r1 D7 k7 => ?_⟩
      have g7 := g1.draw D7 k7
      refine ⟨.ref d, rfl, .int n, rfl, d, l, n, F, rfl, g7.w, hn, fun v F8 H8 s g8 dv ls hs => ⟨by show 3 ≤ sizeLine; decide, fun t nt => ?_⟩⟩
      have e1 : r = ((r.toNat : Nat) : Int) := by omega
      have g9 := g7.trans g8
      exact q _ _ _ (.set r.toNat s) (g9.new nt) (.tup (SqT.of upd_same) (.cons (.str _) (.cons (by rw [← e1]; exact .int _) (.cons (dv.ex (Evl.Ex.new (sub_none g9.sub nt))) .nil)))) ⟨by omega, ls, hs⟩
theorem ok_part {k : Nat} (T : Txt K mg) : FnOk P w K mg base CX0 (k + 5) T.f__law_part T.fd__law_part ["_law_deal_here", "_law_name", "_law_shared", "_law_own", "_law_parts", "_law_most"] (sp_part K) := by
  have G__law_draw : FnOk P w K mg base CX0 1 T.f__law_draw T.fd__law_draw ["_law_deal_here", "_law_many"] sp_draw := ok_draw T
  have G__law_deed : FnOk P w K mg base CX0 4 T.f__law_deed T.fd__law_deed ["_law_deal_here", "_law_n", "_law_parts"] (sp_deed K) := ok_deed T
  have G__law_goings : FnOk P w K mg base CX0 2 T.f__law_goings T.fd__law_goings ["_law_deal_here", "_law_at", "_law_many"] (sp_goings K) := ok_goings T
  refine T.F__law_part.ok sc__law_part (fun vs H Q E h => ?_) (fun cdv A outer s H vs Q E hr h => ?_)
  · obtain ⟨d, l, name, sh, parts, most, own, vo, F, rfl, _⟩ := h
    rfl
  · obtain ⟨d, l, name, sh, parts, most, own, vo, F, rfl, W, dvo, hown, hsh, hparts, m1, m10, q⟩ := h
    obtain ⟨ao, xo, rfl, sqo, dxo⟩ := dvo.tup_inv
    have lxo : xo.length = own.length := by rw [dxo.length, List.length_map]
    refine ⟨_, (pss_cons (ps_set (i := 6) sc__law_part.nd rfl (Or.inr rfl) (pe_op op_add (pv 2) (pe_callB (call_lenK (K := K)) (by rfl) T.z_len bt_len (pa_cons (pv 3) pa_nil))))
      (pss_cons (ps_set (i := 7) sc__law_part.nd rfl (Or.inr rfl) (pe_op op_add pe_int (pe_call G__law_draw (hr.mono (by omega)) (by rfl) T.g__law_draw T.F__law_draw.kp T.b__law_draw .nil pass0 (pa_cons (pv 0) (pa_cons (pv 5) pa_nil)))))
      (pss_cons (ps_setLc (i := 8) (own := [("_law_k", 9)]) (g := gName 9) (tt := tYes) rfl sc__law_part.nd rfl rfl (sw_true rfl rfl rfl (by decide +kernel)) (pi_range1 (by rfl) T.z_range (pa_cons (pv 7) pa_nil)) (blkOk_by (own := [("_law_k", 9)]) (N := nm__law_part) (sc := defScope st__law_part) (by decide +kernel)) (fun _ _ _ _ _ => (pg_name (i := 9) sc__law_part.nd rfl (Or.inl rfl))) (fun _ _ _ _ _ => pts_nil) (fun _ _ _ _ _ => (pe_tup (pa_cons (pe_call G__law_deed (hr.mono (by omega)) (by rfl) T.g__law_deed T.F__law_deed.kp T.b__law_deed .nil pass0 (pa_cons (pv 0) (pa_cons (pv 6) (pa_cons (pv 4) pa_nil)))) (pa_cons (pe_call G__law_goings (hr.mono (by omega)) (by rfl) T.g__law_goings T.F__law_goings.kp T.b__law_goings .nil pass0 (pa_cons (pv 0) (pa_cons (pv 9) (pa_cons (pv 7) pa_nil)))) pa_nil)))))
      (pss_one (ps_ret (pe_tup (pa_cons (pv 1) (pa_cons (pv 3) (pa_cons (pe_callTy (call_tupleK (K := K)) (by rfl) T.z_tuple bt_tuple (pa_cons (pv 8) pa_nil)) pa_nil))))))))), ?_⟩
    refine ⟨.int sh, rfl, .ref ao, rfl, ao, xo, rfl, .inr (ex_T W.sub sqo), _, _, rfl, rfl, ?_⟩
    refine ⟨.ref d, rfl, .int most, rfl, d, l, _, rfl, W.deal, by omega, by omega, fun r H1 r0 r1 D1 k1 => ⟨_, _, rfl, rfl, ?_⟩⟩
    have g1 := (Go.refl W).draw D1 k1
    have en : (sh : Int) + (xo.length : Int) = ((sh + own.length : Nat) : Int) := by omega
    have em : 1 + r = (((1 + r).toNat : Nat) : Int) := by omega
    generalize hmm : (1 + r).toNat = many at em
    dsimp only
    rw [en, em]
    refine ⟨.int many, rfl, _, rfl, by omega, by omega, fun D nD => ?_⟩
    have nDH := g1.none W nD
    refine lc_range (fun i H' => ∃ (F' : Hp) (xs : List V) (rows : List (Deed × List Int)), Go d l F H F' H' ∧ Own d l F' H' D (.lst xs) ∧ DpAll K F' xs (rows.map dRow) ∧ rows.length = i ∧ ∀ r ∈ rows, OkDeed (sh + own.length) parts r.1 ∧ OkGo many r.2) ⟨F, [], [], g1.newm nD, Own.new g1.w nD, .nil, rfl, fun r hr => by cases hr⟩ (fun i H' hi h => ?_) (fun H2 h => ?_)
    · obtain ⟨F2, xs, rows, g2, m2, dr, lr, hrows⟩ := h
      refine ⟨rfl, .ref d, rfl, .int ((sh + own.length : Nat) : Int), rfl, .int parts, rfl, d, l, _, parts, F2, rfl, g2.w, by omega, by omega, fun v F3 H3 e g3 dv he => ?_⟩
      have m3 := m2.go g3
      refine ⟨.ref d, rfl, .int (0 + (i : Int)), rfl, .int many, rfl, d, l, i, many, F3, by rw [Int.zero_add]; rfl, g3.w, by omega, by omega, fun v2 F4 H4 gs g4 dv2 hgs => ?_⟩
      have m4 := m3.go g4
      refine ⟨by show 2 ≤ sizeLine; decide, fun t nt => ?_⟩
      have g5 := ((g2.trans g3).trans g4).new (o := .tup [v, v2]) nt
      have m5 := m4.fresh (u := .tup [v, v2]) nt
      have fx := Evl.Ex.new (o := .tup [v, v2]) (sub_none g4.sub nt)
      have hl : xs.length ≤ 1000 := by rw [dr.length, List.length_map, lr]; omega
      refine ⟨xs, m5.h, small1000 hl, _, xs ++ [.ref t], rows ++ [(e, gs)], g5.mut nDH m5, m5.put, ?_, by rw [List.length_append, lr]; rfl, fun r hr => ?_⟩
      · rw [List.map_append]
        exact (((dr.ex g3.fz).ex g4.fz).ex fx).snoc (.tup (SqT.of upd_same) (.cons ((dv.ex g4.fz).ex fx) (.cons (dv2.ex fx) .nil)))
      · rcases List.mem_append.mp hr with h | h
        · exact hrows r h
        · rw [List.mem_singleton.mp h]
          exact ⟨he, hgs⟩
    · obtain ⟨F2, xs, rows, g2, m2, dr, lr, hrows⟩ := h
      refine ⟨.str name, rfl, .ref ao, rfl, .ref D, rfl, D, xs, rfl, .inl ⟨m2.L, fun t nt => ⟨by show 3 ≤ sizeLine; decide, fun t2 nt2 => ?_⟩⟩⟩
      have g3 := g2.new (o := .tup xs) nt
      have fx := Evl.Ex.new (o := .tup xs) (sub_none g2.sub nt)
      have g4 := g3.new (o := .tup [.str name, .ref ao, .ref t]) nt2
      have fx2 := Evl.Ex.new (o := .tup [.str name, .ref ao, .ref t]) (sub_none g3.sub nt2)
      have lrm : rows.length = many := by rw [lr]; omega
      refine q _ _ _ rows g4 (.tup (SqT.of upd_same) (.cons (.str _) (.cons (((dvo.ex g2.fz).ex fx).ex fx2) (.cons ?_ .nil)))) ⟨by omega, by omega, ?_⟩
      · refine Dp.ex fx2 (.tup (SqT.of upd_same) (dr.ex fx))
      · rw [lrm]
        exact hrows

/-! ### words -/
theorem sum_wd (cs : List Nat) : ((cs.map fun c => wd [c]).map (·.length)).sum = cs.length := by
  induction cs with
  | nil => rfl
  | cons c r ih =>
    rw [List.map_cons, List.map_cons, List.sum_cons, ih, List.length_cons]
    show 1 + r.length = _
    omega
theorem at_wd0 (c : Nat) (t : List Nat) : atI (wd (c :: t)).cps.toList 0 = some c := atI_nat (show (c :: t)[0]? = some c from rfl)
theorem let_of {r : Int} (h0 : 0 ≤ r) (h1 : r < 26) : Let (97 + r.toNat) := ⟨by omega, by omega⟩
theorem join_ok (cs : List Nat) (h : cs.length ≤ 100) : ((cs.map fun c => wd [c]).map (·.length)).sum + (cs.map fun c => wd [c]).length * ("" : Str).length ≤ 16777216 := by
  have e : ("" : Str).length = 0 := by decide +kernel
  rw [sum_wd, e]
  omega
theorem ok_words {k : Nat} (T : Txt K mg) : FnOk P w K mg base CX0 (k + 2) T.f__law_words T.fd__law_words ["_law_deal_here", "_law_many"] sp_words := by
  have G__law_draw : FnOk P w K mg base CX0 1 T.f__law_draw T.fd__law_draw ["_law_deal_here", "_law_many"] sp_draw := ok_draw T
  refine T.F__law_words.ok sc__law_words (fun vs H Q E h => ?_) (fun cdv A outer s H vs Q E hr h => ?_)
  · obtain ⟨d, l, n, F, rfl, _⟩ := h
    rfl
  · obtain ⟨d, l, many, F, rfl, W, hmany, q⟩ := h
    have l26 : letS.length ≤ sizeLine := by rw [let_len]; decide
    refine ⟨_, (pss_cons (ps_set (i := 2) sc__law_words.nd rfl (Or.inr rfl) pe_str)
      (pss_cons (ps_set (i := 3) sc__law_words.nd rfl (Or.inl rfl) (pe_lst (pa_cons pe_str (pa_cons pe_str (pa_cons pe_str (pa_cons pe_str (pa_cons pe_str (pa_cons pe_str (pa_cons pe_str (pa_cons pe_str pa_nil))))))))))
      (pss_cons (ps_set (i := 4) sc__law_words.nd rfl (Or.inl rfl) (pe_join pe_str (pe_lc (own := [("_law_k", 5)]) (g := gName 5) (tt := tYes) rfl sc__law_words.nd (pi_range1 (by rfl) T.z_range (pa_cons (pe_call G__law_draw (hr.mono (by omega)) (by rfl) T.g__law_draw T.F__law_draw.kp T.b__law_draw .nil pass0 (pa_cons (pv 0) (pa_cons pe_int pa_nil))) pa_nil)) (blkOk_by (own := [("_law_k", 5)]) (N := nm__law_words) (sc := defScope st__law_words) (by decide +kernel)) (fun _ _ _ _ _ => (pg_name (i := 5) sc__law_words.nd rfl (Or.inl rfl))) (fun _ _ _ _ _ => pts_nil) (fun _ _ _ _ _ => (pe_ix ix_str (pv 2) (pe_call G__law_draw (hr.mono (by omega)) (by rfl) T.g__law_draw T.F__law_draw.kp T.b__law_draw .nil pass0 (pa_cons (pv 0) (pa_cons pe_int pa_nil))) (fun _ _ => rfl))))))
      (pss_cons (ps_par3 (i := 6) (j := 7) (l := 8) (by rfl) sc__law_words.nd rfl rfl rfl (by decide) (by decide) (by decide) rfl rfl rfl (pa_cons (pe_call G__law_draw (hr.mono (by omega)) (by rfl) T.g__law_draw T.F__law_draw.kp T.b__law_draw .nil pass0 (pa_cons (pv 0) (pa_cons (pe_op op_add (pe_callB call_len_str (by rfl) T.z_len bt_len (pa_cons (pv 4) pa_nil)) pe_int) pa_nil))) (pa_cons (pe_call G__law_draw (hr.mono (by omega)) (by rfl) T.g__law_draw T.F__law_draw.kp T.b__law_draw .nil pass0 (pa_cons (pv 0) (pa_cons pe_int pa_nil))) (pa_cons (pe_cmpR op_eq (pe_call G__law_draw (hr.mono (by omega)) (by rfl) T.g__law_draw T.F__law_draw.kp T.b__law_draw .nil pass0 (pa_cons (pv 0) (pa_cons pe_int pa_nil))) pe_int (nomark _)) pa_nil))) (by rfl))
      (pss_cons (ps_set (i := 9) sc__law_words.nd rfl (Or.inl rfl) (pe_lst pa_nil))
      (Evl.pss_cut (ps_for PassesOwn.never rfl (pi_range1 (by rfl) T.z_range (pa_cons (pv 1) pa_nil)) (pg_name (i := 5) sc__law_words.nd rfl (Or.inl rfl))
        (pss_cons (ps_set (i := 10) sc__law_words.nd rfl (Or.inl rfl) (pe_op op_add_str (pe_op op_add_str (pe_slice sl_str (pv 4) po_none (po_some (pv 6))) (pe_ix ix_str (pv 2) (pe_op op_modN (pe_op op_add (pv 7) (pv 5)) pe_int) (fun _ _ => rfl))) (pe_slice sl_str (pv 4) (po_some (pv 6)) po_none)))
        (Evl.pss_cut (ps_if (pt_not (pt_val (pv 8))) (pss_one (ps_set (i := 10) sc__law_words.nd rfl (Or.inl rfl) (pe_join pe_str (pe_lc (own := [("_law_j", 11)]) (g := gName 11) (tt := tYes) rfl sc__law_words.nd (pi_range1 (by rfl) T.z_range (pa_cons (pe_op op_add pe_int (pe_call G__law_draw (hr.mono (by omega)) (by rfl) T.g__law_draw T.F__law_draw.kp T.b__law_draw .nil pass0 (pa_cons (pv 0) (pa_cons pe_int pa_nil)))) pa_nil)) (blkOk_by (own := [("_law_j", 11)]) (N := nm__law_words) (sc := defScope st__law_words) (by decide +kernel)) (fun _ _ _ _ _ => (pg_name (i := 11) sc__law_words.nd rfl (Or.inl rfl))) (fun _ _ _ _ _ => pts_nil) (fun _ _ _ _ _ => (pe_ix ix_str (pv 2) (pe_call G__law_draw (hr.mono (by omega)) (by rfl) T.g__law_draw T.F__law_draw.kp T.b__law_draw .nil pass0 (pa_cons (pv 0) (pa_cons pe_int pa_nil))) (fun _ _ => rfl))))))) pss_nil)
        (Evl.pss_cut (ps_while PassesOwn.never (PW.pt (pw_or (pt_cmpR (op_inK (K := K)) (pv 10) (pv 3) rfl) (pw_or1 (pt_cmpR (op_inK (K := K)) (pv 10) (pv 9) rfl))))
          (pss_one (ps_set (i := 10) sc__law_words.nd rfl (Or.inl rfl) (pe_op op_add_str (pe_ix ix_str (pv 2) (pe_op op_modN (pe_op op_add (pe_bmK (K := K) PySem.F.plainAttrs_str PySem.F.slot_str_index PySem.F.type_str_index mt_sindex (pv 2) (pa_cons (pe_ix ix_str (pv 10) pe_int (fun _ _ => rfl)) pa_nil)) pe_int) pe_int) (fun _ _ => rfl)) (pe_slice sl_str (pv 10) (po_some pe_int) po_none)))))
        (pss_one (ps_expr (pe_bmK (K := K) PySem.F.plainAttrs_list PySem.F.slot_list_append PySem.F.type_list_append mt_append (pv 9) (pa_cons (pv 10) pa_nil))))))))
      (pss_one (ps_ret (pv 9))))))))), ?_⟩
    refine ⟨by show 8 ≤ sizeLine; decide, fun pk npk => ?_⟩
    have mk : Own d l F (upd H pk (.lst (keptS.map V.str))) pk (.lst (keptS.map V.str)) := Own.new W npk
    have g1 : Go d l F H F (upd H pk (.lst (keptS.map V.str))) := (Go.refl W).newm npk
    have e0 : upd H pk (.lst [.str "boxes", .str "part", .str "own", .str "any", .str "call", .str "rest", .str "all", .str "none"]) = upd H pk (.lst (keptS.map V.str)) := rfl
    rw [e0]
    generalize upd H pk (.lst (keptS.map V.str)) = H1 at mk g1 ⊢
    -- the core
    refine ⟨⟨_, rfl⟩, .ref d, rfl, d, l, 6, rfl, g1.deal, by decide, by decide, fun r H2 r0 r1 D2 k2 => ⟨_, rfl, by omega, by omega, fun D nD => ?_⟩⟩
    have g2 := g1.draw D2 k2
    have mk2 := mk.draw k2
    have nDH := g2.none W nD
    refine lc_range (fun i H' => ∃ cs : List Nat, Go d l F H F H' ∧ Own d l F H' pk (.lst (keptS.map V.str)) ∧ Own d l F H' D (.lst ((cs.map fun c => wd [c]).map V.str)) ∧ cs.length = i ∧ ∀ c ∈ cs, Let c) ⟨[], g2.newm nD, mk2.freshm nD, Own.new g2.w nD, rfl, fun c hc => by cases hc⟩ (fun i H' hi h => ?_) (fun H3 h => ?_)
    · obtain ⟨cs, ga, ma, mb, lc, hc⟩ := h
      refine ⟨rfl, .str letS, rfl, .ref d, rfl, d, l, 26, rfl, ga.deal, by decide, by decide, fun c Hb c0 c1 Db kb => ⟨letS, c, _, rfl, rfl, l26, let_at' c0 c1, _, (mb.draw kb).h, ?_, cs ++ [97 + c.toNat], (ga.draw Db kb).mut nDH (mb.draw kb), (ma.draw kb).other (mk2.ne nD), ?_, by rw [List.length_append, lc]; rfl, fun c hc' => ?_⟩⟩
      · rw [List.length_map, List.length_map, lc]
        exact small1000 (by omega)
      · rw [List.map_append, List.map_append]
        exact (mb.draw kb).put
      · rcases List.mem_append.mp hc' with h | h
        · exact hc c h
        · rw [List.mem_singleton.mp h]; exact let_of c0 c1
    obtain ⟨cs, g3, mk3, m3, lcs, hcs⟩ := h
    have lcs5 : cs.length ≤ 5 := by omega
    refine ⟨"", D, cs.map (fun c => wd [c]), rfl, rfl, .inl m3.L, join_ok cs (by omega), ?_⟩
    rw [join_wd]
    have hz : (wd cs).length ≤ sizeLine := by rw [wd_len]; exact Nat.le_of_lt (small1000 (by omega))
    refine ⟨.ref d, rfl, .str (wd cs), rfl, wd cs, rfl, hz, _, _, rfl, rfl, d, l, _, rfl, g3.deal, by omega, by rw [wd_len]; omega, fun at_ H4 a0 a1 D4 k4 => ⟨.ref d, rfl, d, l, 26, rfl, D4, by decide, by decide, fun turn H5 t0 t1 D5 k5 => ⟨.ref d, rfl, d, l, 2, rfl, D5, by decide, by decide, fun near H6 n0 n1 D6 k6 => ⟨rfl, _, _, _, rfl, ?_⟩⟩⟩⟩
    rw [wd_len] at a1
    have g6 := ((g3.draw D4 k4).draw D5 k5).draw D6 k6
    have mk6 := ((mk3.draw k4).draw k5).draw k6
    refine ⟨Nat.zero_le _, fun pf npf => ?_⟩
    have npfH := g6.none W npf
    have nkf := mk6.ne npf
    have g7 := g6.newm (o := .lst []) npf
    have mk7 := mk6.freshm (u := .lst []) npf
    have mf7 := Own.new (o := .lst []) g6.w npf
    generalize upd H6 pf (.lst []) = H7 at g7 mk7 mf7 ⊢
    generalize decide (V.int near = V.int 0) = nb
    refine ⟨fun σ H' => ∃ (names : List Str) (y5 y10 y11 : Option V), σ = [some (.ref d), some (.int many), some (.str letS), some (.ref pk), some (.str (wd cs)), y5, some (.int at_), some (.int turn), some (.bl nb), some (.ref pf), y10, y11] ∧ Go d l F H F H' ∧ Own d l F H' pk (.lst (keptS.map V.str)) ∧ Own d l F H' pf (.lst (names.map V.str)) ∧ names.length = many ∧ names.Nodup ∧ (∀ z ∈ names, Nm z ∧ z ∉ keptS), ?_, ?_⟩
    · refine ⟨.int many, rfl, _, rfl, by omega, by omega, for_range (fun i σ H' => ∃ (names : List Str) (y5 y10 y11 : Option V), σ = [some (.ref d), some (.int many), some (.str letS), some (.ref pk), some (.str (wd cs)), y5, some (.int at_), some (.int turn), some (.bl nb), some (.ref pf), y10, y11] ∧ Go d l F H F H' ∧ Own d l F H' pk (.lst (keptS.map V.str)) ∧ Own d l F H' pf (.lst (names.map V.str)) ∧ names.length = i ∧ names.Nodup ∧ (∀ z ∈ names, Nm z ∧ z ∉ keptS)) ⟨[], _, _, _, rfl, g7, mk7, mf7, rfl, List.nodup_nil, fun z hz => by cases hz⟩ (fun i σ H' hi h => ?_) (fun σ H' h => ?_)⟩
      · obtain ⟨names, y5, y10, y11, rfl, ga, mka, mfa, ln, nd, hn⟩ := h
        have hm := fmod_in (turn + (0 + (i : Int))) 26 (by decide)
        refine ⟨.str (wd cs), rfl, .int at_, rfl, at_, rfl, wd cs, rfl, hz, .str letS, rfl, .int turn, rfl, .int (0 + (i : Int)), rfl, _, _, rfl, rfl, _, _, rfl, rfl, by dsimp only; decide, letS, _, _, rfl, rfl, l26, let_at' hm.1 hm.2, _, _, rfl, rfl, ?_, .str (wd cs), rfl, .int at_, rfl, at_, rfl, wd cs, rfl, hz, _, _, rfl, rfl, ?_, ?_⟩
        · rw [cut_hi cs a0 (by omega), wd_len, List.length_take]
          exact Nat.le_of_lt (small1000 (by show _ + 1 ≤ 1000; omega))
        · rw [cut_hi cs a0 (by omega), cut_lo cs a0 (by omega)]
          have e1 : ∀ c : Nat, wd (cs.take at_.toNat) ++ (⟨#[c]⟩ : Str) = wd (cs.take at_.toNat ++ [c]) := fun c => wd_cat _ [c]
          rw [e1, wd_len, wd_len, List.length_append, List.length_take, List.length_drop]
          exact Nat.le_of_lt (small1000 (by simp; omega))
        rw [cut_hi cs a0 (by omega), cut_lo cs a0 (by omega)]
        have e1 : ∀ c : Nat, wd (cs.take at_.toNat) ++ (⟨#[c]⟩ : Str) = wd (cs.take at_.toNat ++ [c]) := fun c => wd_cat _ [c]
        rw [e1, wd_cat]
        have hw1 : (cs.take at_.toNat ++ [97 + ((turn + (0 + (i : Int))).fmod 26).toNat] ++ cs.drop at_.toNat).length = cs.length + 1 := by
          rw [List.length_append, List.length_append, List.length_take, List.length_drop]
          simp
          omega
        have hw2 : ∀ c ∈ cs.take at_.toNat ++ [97 + ((turn + (0 + (i : Int))).fmod 26).toNat] ++ cs.drop at_.toNat, Let c := fun c hc => by
          rcases List.mem_append.mp hc with h | h
          · rcases List.mem_append.mp h with h | h
            · exact hcs c (List.mem_of_mem_take h)
            · rw [List.mem_singleton.mp h]; exact let_of hm.1 hm.2
          · exact hcs c (List.mem_of_mem_drop h)
        generalize cs.take at_.toNat ++ [97 + ((turn + (0 + (i : Int))).fmod 26).toNat] ++ cs.drop at_.toNat = nm0 at hw1 hw2 ⊢
        refine ⟨fun σ H' => ∃ (nm : List Nat) (y11 : Option V), σ = [some (.ref d), some (.int many), some (.str letS), some (.ref pk), some (.str (wd cs)), some (.int (0 + (i : Int))), some (.int at_), some (.int turn), some (.bl nb), some (.ref pf), some (.str (wd nm)), y11] ∧ Go d l F H F H' ∧ Own d l F H' pk (.lst (keptS.map V.str)) ∧ Own d l F H' pf (.lst (names.map V.str)) ∧ 1 ≤ nm.length ∧ nm.length ≤ 6 ∧ ∀ c ∈ nm, Let c, ?_, ?_⟩
        · refine ⟨.bl nb, rfl, _, rfl, ite2 (fun e => ?_) (fun e => ⟨nm0, _, rfl, ga, mka, mfa, by omega, by omega, hw2⟩)⟩
          refine ⟨⟨_, rfl⟩, .ref d, rfl, d, l, 6, rfl, ga.deal, by decide, by decide, fun r H2 r0 r1 D2 k2 => ⟨_, _, rfl, rfl, _, rfl, by omega, by omega, fun D nD => ?_⟩⟩
          have g2 := ga.draw D2 k2
          have mk2 := mka.draw k2
          have mf2 := mfa.draw k2
          have nDH := g2.none W nD
          refine lc_range (fun i H' => ∃ cs : List Nat, Go d l F H F H' ∧ Own d l F H' pk (.lst (keptS.map V.str)) ∧ Own d l F H' pf (.lst (names.map V.str)) ∧ Own d l F H' D (.lst ((cs.map fun c => wd [c]).map V.str)) ∧ cs.length = i ∧ ∀ c ∈ cs, Let c) ⟨[], g2.newm nD, mk2.freshm nD, mf2.freshm nD, Own.new g2.w nD, rfl, fun c hc => by cases hc⟩ (fun i H' hi h => ?_) (fun H3 h => ?_)
          · obtain ⟨cs, ga, ma, mf, mb, lc, hc⟩ := h
            refine ⟨rfl, .str letS, rfl, .ref d, rfl, d, l, 26, rfl, ga.deal, by decide, by decide, fun c Hb c0 c1 Db kb => ⟨letS, c, _, rfl, rfl, l26, let_at' c0 c1, _, (mb.draw kb).h, ?_, cs ++ [97 + c.toNat], (ga.draw Db kb).mut nDH (mb.draw kb), (ma.draw kb).other (mk2.ne nD), (mf.draw kb).other (mf2.ne nD), ?_, by rw [List.length_append, lc]; rfl, fun c hc' => ?_⟩⟩
            · rw [List.length_map, List.length_map, lc]
              exact small1000 (by omega)
            · rw [List.map_append, List.map_append]
              exact (mb.draw kb).put
            · rcases List.mem_append.mp hc' with h | h
              · exact hc c h
              · rw [List.mem_singleton.mp h]; exact let_of c0 c1
          obtain ⟨cs', g3, mk3, mf3, m3, lcs', hcs'⟩ := h
          refine ⟨"", D, cs'.map (fun c => wd [c]), rfl, rfl, .inl m3.L, join_ok cs' (by omega), ?_⟩
          rw [join_wd]
          exact ⟨cs', _, rfl, g3, mk3, mf3, by omega, by omega, hcs'⟩
        · rintro σ H8 ⟨nm, y11, rfl, gb, mkb, mfb, n1, n6, hnm⟩
          refine ⟨fun σ H' => ∃ (nm : List Nat), σ = [some (.ref d), some (.int many), some (.str letS), some (.ref pk), some (.str (wd cs)), some (.int (0 + (i : Int))), some (.int at_), some (.int turn), some (.bl nb), some (.ref pf), some (.str (wd nm)), y11] ∧ H' = H8 ∧ 1 ≤ nm.length ∧ nm.length ≤ 6 ∧ (∀ c ∈ nm, Let c) ∧ wd nm ∉ keptS ∧ wd nm ∉ names, ?_, ?_⟩
          · refine ⟨fun mm σ H' => ∃ (c : Nat) (t : List Nat), σ = [some (.ref d), some (.int many), some (.str letS), some (.ref pk), some (.str (wd cs)), some (.int (0 + (i : Int))), some (.int at_), some (.int turn), some (.bl nb), some (.ref pf), some (.str (wd (c :: t))), y11] ∧ H' = H8 ∧ t.length ≤ 5 ∧ (∀ x ∈ c :: t, Let x) ∧ wd (rt mm c t) ∉ keptS ∧ wd (rt mm c t) ∉ names, ?_, ?_⟩
            · cases nm with
              | nil => simp at n1
              | cons c t =>
                obtain ⟨mm, _, h1, h2⟩ := one_free (c := c) (t := t) (found := names) (by omega)
                exact ⟨mm, c, t, rfl, rfl, by simpa using n6, hnm, h1, h2⟩
            · rintro mm σ H' ⟨c, t, rfl, rfl, lt, hct, h1, h2⟩
              have lc : Let c := hct c List.mem_cons_self
              have hzt : (wd (c :: t)).length ≤ sizeLine := by rw [wd_len, List.length_cons]; exact Nat.le_of_lt (small1000 (by omega))
              have hc2 : c - 97 < 26 := by have := lc.1; have := lc.2; omega
              have ec : 97 + (c - 97) = c := by have := lc.1; omega
              have occ : Builtin.Str.occurrences letS (wd [c]) 0 letS.length 1 = [c - 97] := by
                have := let_ix ⟨c - 97, hc2⟩
                simpa [ec] using this
              have hm := fmod_in (((c - 97 : Nat) : Int) + 1) 26 (by decide)
              have em : ((((c - 97 : Nat) : Int) + 1).fmod 26).toNat = (c - 97 + 1) % 26 := by
                rw [Int.fmod_eq_emod_of_nonneg _ (by decide)]
                omega
              refine ⟨.str (wd (c :: t)), rfl, .ref pk, rfl, pk, _, rfl, .inl mkb.L, rfl, flat_strs' _, _, rfl, ite2 (fun e => iteT ?_) (fun e => ⟨.str (wd (c :: t)), rfl, .ref pf, rfl, pf, _, rfl, .inl mfb.L, rfl, flat_strs' _, _, rfl, ite2 (fun e2 => ?_) (fun e2 => ⟨c :: t, rfl, rfl, by simp, by simpa using lt, hct, ?_, ?_⟩)⟩)⟩
              rotate_left 2
              · intro hk
                apply e
                show inV _ _ = true
                rw [in_strs]
                exact decide_eq_true hk
              · intro hk
                apply e2
                show inV _ _ = true
                rw [in_strs]
                exact decide_eq_true hk
              all_goals
                have bad : wd (c :: t) ∈ keptS ∨ wd (c :: t) ∈ names := by
                  first
                  | exact .inr (of_decide_eq_true ((in_strs _ _).symm.trans e2))
                  | exact .inl (of_decide_eq_true ((in_strs _ _).symm.trans e))
                obtain ⟨m2, rfl⟩ : ∃ m2, mm = m2 + 1 := by
                  cases mm with
                  | zero =>
                    rw [rt_zero lc] at h1 h2
                    rcases bad with h | h
                    · exact absurd h h1
                    · exact absurd h h2
                  | succ m2 => exact ⟨m2, rfl⟩
                refine ⟨_, fun σ' H' h => h, .str letS, rfl, .str letS, rfl, rfl, .str (wd (c :: t)), rfl, wd (c :: t), 0, c, rfl, rfl, hzt, at_wd0 c t, letS, wd [c], c - 97, [], rfl, rfl, occ, _, _, rfl, rfl, _, _, rfl, rfl, by dsimp only; decide, letS, _, _, rfl, rfl, l26, let_at' hm.1 hm.2, .str (wd (c :: t)), rfl, 1, rfl, wd (c :: t), rfl, hzt, _, _, rfl, rfl, ?_, ?_⟩
                · rw [cut_lo (c :: t) (by decide) (by simp only [List.length_cons]; omega), wd_len]
                  exact Nat.le_of_lt (small1000 (by show 1 + t.length ≤ 1000; omega))
                · rw [cut_lo (c :: t) (by decide) (by simp only [List.length_cons]; omega), em]
                  have e3 : (⟨#[97 + (c - 97 + 1) % 26]⟩ : Str) ++ wd ((c :: t).drop (1 : Int).toNat) = wd ((97 + (c - 97 + 1) % 26) :: t) := wd_cat [97 + (c - 97 + 1) % 26] t
                  rw [e3]
                  refine ⟨m2, Nat.lt_succ_self _, _, t, rfl, rfl, lt, fun x hx => ?_, by rw [rt_next]; exact h1, by rw [rt_next]; exact h2⟩
                  rcases List.mem_cons.mp hx with rfl | hx
                  · exact ⟨by omega, by omega⟩
                  · exact hct x (List.mem_cons_of_mem _ hx)
          · rintro σ H9 ⟨nm, rfl, rfl, n1, n6, hnm, h1, h2⟩
            have hl : (names.map V.str).length ≤ 1000 := by rw [List.length_map, ln]; omega
            refine ⟨.ref pf, rfl, .inl ⟨rfl, _, mfb.L⟩, .str (wd nm), rfl, pf, _, _, rfl, rfl, mfb.h, small1000 hl, names ++ [wd nm], _, _, _, rfl, gb.mut npfH mfb, mkb.other nkf, ?_, by rw [List.length_append, ln]; rfl, ?_, fun z hz => ?_⟩
            · rw [List.map_append]
              exact mfb.put
            · rw [List.nodup_append]
              exact ⟨nd, by simp, fun a ha b hb e => h2 (by rw [List.mem_singleton.mp hb] at e; rw [← e]; exact ha)⟩
            · rcases List.mem_append.mp hz with h | h
              · exact hn z h
              · rw [List.mem_singleton.mp h]
                exact ⟨⟨nm, rfl, n1, n6, hnm⟩, h1⟩
      · obtain ⟨names, y5, y10, y11, rfl, ga, mka, mfa, ln, nd, hn⟩ := h
        exact ⟨names, _, _, _, rfl, ga, mka, mfa, ln, nd, hn⟩
    · rintro σ H8 ⟨names, y5, y10, y11, rfl, ga, mka, mfa, ln, nd, hn⟩
      exact ⟨.ref pf, rfl, q pf names H8 npfH ga mfa ln nd hn⟩

/-! ### programs drawn -/
theorem okDeed_mono {n a b : Nat} (h : a ≤ b) : ∀ {e : Deed}, OkDeed n a e → OkDeed n b e
  | .call _, h1 => Nat.lt_of_lt_of_le h1 h
  | .rest, _ => trivial
  | .any _, h1 => h1
  | .set _ _, h1 => h1
theorem ok_program {k : Nat} (T : Txt K mg) : FnOk P w K mg base CX0 (k + 6) T.f__law_program T.fd__law_program ["_law_deal_here", "_law_most_boxes", "_law_most_parts", "_law_most_rows"] (sp_program K) := by
  have G__law_draw : FnOk P w K mg base CX0 1 T.f__law_draw T.fd__law_draw ["_law_deal_here", "_law_many"] sp_draw := ok_draw T
  have G__law_words : FnOk P w K mg base CX0 2 T.f__law_words T.fd__law_words ["_law_deal_here", "_law_many"] sp_words := ok_words T
  have G__law_part : FnOk P w K mg base CX0 5 T.f__law_part T.fd__law_part ["_law_deal_here", "_law_name", "_law_shared", "_law_own", "_law_parts", "_law_most"] (sp_part K) := ok_part T
  refine T.F__law_program.ok sc__law_program (fun vs H Q E h => ?_) (fun cdv A outer s H vs Q E hr h => ?_)
  · obtain ⟨d, l, mb, mp, mr, F, rfl, _⟩ := h
    rfl
  · obtain ⟨d, l, mb, mp, mr, F, rfl, W, hmb, mp1, hmp, mr1, hmr, q⟩ := h
    refine ⟨_, (pss_cons (ps_set (i := 4) sc__law_program.nd rfl (Or.inl rfl) (pe_call G__law_words (hr.mono (by omega)) (by rfl) T.g__law_words T.F__law_words.kp T.b__law_words .nil pass0 (pa_cons (pv 0) (pa_cons pe_int pa_nil))))
      (pss_cons (ps_set (i := 5) sc__law_program.nd rfl (Or.inl rfl) (pe_call G__law_draw (hr.mono (by omega)) (by rfl) T.g__law_draw T.F__law_draw.kp T.b__law_draw .nil pass0 (pa_cons (pv 0) (pa_cons (pe_op op_add (pv 1) pe_int) pa_nil))))
      (pss_cons (ps_set (i := 6) sc__law_program.nd rfl (Or.inl rfl) (pe_op op_add pe_int (pe_call G__law_draw (hr.mono (by omega)) (by rfl) T.g__law_draw T.F__law_draw.kp T.b__law_draw .nil pass0 (pa_cons (pv 0) (pa_cons (pv 2) pa_nil)))))
      (Evl.pss_cut (ps_set (i := 7) sc__law_program.nd rfl (Or.inl rfl) (pe_ix (ix_listK (K := K)) (pe_lst (pa_cons (pv 6) (pa_cons pe_int pa_nil))) (pe_callTy call_int1 (by rfl) T.z_int bt_int (pa_cons (pe_and (pe_cmpR op_eq (pv 6) pe_int (nomark _)) (pe_one (pe_cmpR op_eq (pe_call G__law_draw (hr.mono (by omega)) (by rfl) T.g__law_draw T.F__law_draw.kp T.b__law_draw .nil pass0 (pa_cons (pv 0) (pa_cons pe_int pa_nil))) pe_int (nomark _)))) pa_nil)) (fun _ _ => rfl)))
      (pss_cons (ps_set (i := 8) sc__law_program.nd rfl (Or.inl rfl) (pe_lst pa_nil))
      (Evl.pss_cut (ps_for PassesOwn.never rfl (pi_range1 (by rfl) T.z_range (pa_cons (pv 6) pa_nil)) (pg_name (i := 9) sc__law_program.nd rfl (Or.inl rfl))
        (pss_cons (ps_set (i := 10) sc__law_program.nd rfl (Or.inl rfl) (pe_callTy (call_tupleK (K := K)) (by rfl) T.z_tuple bt_tuple (pa_cons (pe_slice (sl_listK (K := K)) (pv 4) (po_some (pe_op op_add pe_int (pe_op op_mul pe_int (pv 9)))) (po_some (pe_op op_add (pe_op op_add pe_int (pe_op op_mul pe_int (pv 9))) (pe_callB (call_min2 rfl) (by rfl) T.z_min bt_min (pa_cons pe_int (pa_cons (pe_call G__law_draw (hr.mono (by omega)) (by rfl) T.g__law_draw T.F__law_draw.kp T.b__law_draw .nil pass0 (pa_cons (pv 0) (pa_cons (pe_op op_add (pe_op op_sub (pv 1) (pv 5)) pe_int) pa_nil))) pa_nil)))))) pa_nil)))
        (pss_one (ps_expr (pe_bmK (K := K) PySem.F.plainAttrs_list PySem.F.slot_list_append PySem.F.type_list_append mt_append (pv 8) (pa_cons (pe_call G__law_part (hr.mono (by omega)) (by rfl) T.g__law_part T.F__law_part.kp T.b__law_part .nil pass0 (pa_cons (pv 0) (pa_cons (pe_ix (ix_listK (K := K)) (pv 4) (pe_op op_add pe_int (pv 9)) (fun _ _ => rfl)) (pa_cons (pv 5) (pa_cons (pv 10) (pa_cons (pv 7) (pa_cons (pv 3) pa_nil))))))) pa_nil))))))
      (pss_one (ps_ret (pe_tup (pa_cons (pe_callTy (call_tupleK (K := K)) (by rfl) T.z_tuple bt_tuple (pa_cons (pe_slice (sl_listK (K := K)) (pv 4) po_none (po_some (pv 5))) pa_nil)) (pa_cons (pe_callTy (call_tupleK (K := K)) (by rfl) T.z_tuple bt_tuple (pa_cons (pv 8) pa_nil)) pa_nil))))))))))), ?_⟩
    refine ⟨.ref d, rfl, d, l, 12, F, rfl, W, by decide, fun pw ws H1 npw g1 mw1 lw ndw hw => ?_⟩
    refine ⟨.ref d, rfl, .int mb, rfl, _, _, rfl, rfl, d, l, _, rfl, g1.deal, by omega, by omega, fun shi H2 s0 s1 D2 k2 => ?_⟩
    have g2 := g1.draw D2 k2
    have mw2 := mw1.draw k2
    refine ⟨.ref d, rfl, .int mp, rfl, d, l, _, rfl, g2.deal, by omega, by omega, fun r H3 r0 r1 D3 k3 => ⟨_, _, rfl, rfl, ?_⟩⟩
    have g3 := g2.draw D3 k3
    have mw3 := mw2.draw k3
    dsimp only
    obtain ⟨sh, rfl⟩ := Int.eq_ofNat_of_zero_le s0
    obtain ⟨many, em⟩ := Int.eq_ofNat_of_zero_le (show 0 ≤ 1 + r by omega)
    rw [em]
    refine ⟨fun σ H' => ∃ calls : Nat, σ = [some (.ref d), some (.int mb), some (.int mp), some (.int mr), some (.ref pw), some (.int sh), some (.int many), some (.int calls), none, none, none] ∧ Go d l F H F H' ∧ Own d l F H' pw (.lst (ws.map V.str)) ∧ calls ≤ many, ?_, ?_⟩
    · refine ⟨.int many, rfl, by show 2 ≤ sizeLine; decide, fun pl npl => ?_⟩
      have g4 := g3.newm (o := .lst [.int many, .int 0]) npl
      have mw4 := mw3.freshm (u := .lst [.int many, .int 0]) npl
      have npd := g3.w.ne npl
      refine ⟨.int many, rfl, rfl, _, rfl, ite2 (fun e => ⟨.ref d, rfl, d, l, 2, rfl, g4.deal, by decide, by decide, fun r4 H4 _ _ D4 k4 => ⟨rfl, .inr ⟨_, rfl, ?_⟩⟩⟩) (fun e => .inr ⟨_, rfl, ?_⟩)⟩
      · obtain ⟨v, ev, hv⟩ : ∃ v : Nat, atI [V.int many, V.int 0] (if decide (V.int r4 = V.int 0) = true then 1 else 0) = some (.int (v : Int)) ∧ v ≤ many := by
          by_cases h : decide (V.int r4 = V.int 0) = true
          · rw [if_pos h]; exact ⟨0, rfl, Nat.zero_le _⟩
          · rw [if_neg h]; exact ⟨many, rfl, Nat.le_refl _⟩
        exact ⟨pl, _, _, _, rfl, rfl, SqL.of (k4 pl _ npd.1 npd.2 upd_same), ev, v, rfl, g4.draw D4 k4, mw4.draw k4, hv⟩
      · exact ⟨pl, _, _, _, rfl, rfl, SqL.of upd_same, rfl, many, rfl, g4, mw4, Nat.le_refl _⟩
    rintro σ H4 ⟨calls, rfl, g4, mw4, hcalls⟩
    refine ⟨Nat.zero_le _, fun pp npp => ?_⟩
    have nppH := g4.none W npp
    have nwp := mw4.ne npp
    have g5 := g4.newm (o := .lst []) npp
    have mw5 := mw4.freshm (u := .lst []) npp
    have mp5 := Own.new (o := .lst []) g4.w npp
    generalize upd H4 pp (.lst []) = H5 at g5 mw5 mp5 ⊢
    refine ⟨fun σ H' => ∃ (F' : Hp) (xs : List V) (parts : List Part) (y9 y10 : Option V), σ = [some (.ref d), some (.int mb), some (.int mp), some (.int mr), some (.ref pw), some (.int sh), some (.int many), some (.int calls), some (.ref pp), y9, y10] ∧ Go d l F H F' H' ∧ Own d l F' H' pw (.lst (ws.map V.str)) ∧ Own d l F' H' pp (.lst xs) ∧ DpAll K F' xs (parts.map dPart) ∧ parts.length = many ∧ ∀ k p, parts[k]? = some p → PartOf ws sh many mb mr k p, ?_, ?_⟩
    · refine ⟨.int many, rfl, _, rfl, by omega, by omega, for_range (fun i σ H' => ∃ (F' : Hp) (xs : List V) (parts : List Part) (y9 y10 : Option V), σ = [some (.ref d), some (.int mb), some (.int mp), some (.int mr), some (.ref pw), some (.int sh), some (.int many), some (.int calls), some (.ref pp), y9, y10] ∧ Go d l F H F' H' ∧ Own d l F' H' pw (.lst (ws.map V.str)) ∧ Own d l F' H' pp (.lst xs) ∧ DpAll K F' xs (parts.map dPart) ∧ parts.length = i ∧ ∀ k p, parts[k]? = some p → PartOf ws sh many mb mr k p) ⟨F, [], [], _, _, rfl, g5, mw5, mp5, .nil, rfl, fun k p e => by simp at e⟩ (fun i σ H' hi h => ?_) (fun σ H' h => ?_)⟩
      · obtain ⟨F6, xs, parts, y9, y10, rfl, g6, mw6, mp6, dx, lp, hp⟩ := h
        have hi3 : i < 3 := by omega
        refine ⟨.ref pw, rfl, .int (0 + (i : Int)), rfl, _, _, rfl, rfl, .inl ⟨by decide, by decide⟩, _, _, rfl, rfl, _, rfl, ?_⟩
        refine ⟨.int (0 + (i : Int)), rfl, _, _, rfl, rfl, .inl ⟨by decide, by decide⟩, _, _, rfl, rfl, .ref d, rfl, .int mb, rfl, .int sh, rfl, _, _, rfl, rfl, _, _, rfl, rfl, d, l, _, rfl, g6.deal, by omega, by omega, fun o H7 o0 o1 D7 k7 => ⟨_, _, rfl, _, _, rfl, rfl, _, rfl, ?_⟩⟩
        have g7 := g6.draw D7 k7
        have mw7 := mw6.draw k7
        have mp7 := mp6.draw k7
        dsimp only
        obtain ⟨ol, eo, ho2, hom⟩ : ∃ ol : Nat, (if o < 2 then o else 2) = (ol : Int) ∧ ol ≤ 2 ∧ sh + ol ≤ mb := by
          by_cases h : o < 2
          · rw [if_pos h]; exact ⟨o.toNat, by omega, by omega, by omega⟩
          · rw [if_neg h]; exact ⟨2, rfl, by omega, by omega⟩
        have e1 : 3 + 2 * (0 + (i : Int)) = ((3 + 2 * i : Nat) : Int) := by omega
        have e2 : 3 + 2 * (0 + (i : Int)) + (if o < 2 then o else 2) = ((3 + 2 * i + ol : Nat) : Int) := by rw [eo]; omega
        rw [e2, e1]
        refine ⟨pw, _, rfl, mw7.L, fun ps nps => ?_⟩
        have ecut : cutV (ws.map V.str) (some ((3 + 2 * i : Nat) : Int)) (some ((3 + 2 * i + ol : Nat) : Int)) = ((ws.drop (3 + 2 * i)).take ol).map V.str := by
          rw [cut_nat _ (by rw [List.length_map, lw]; omega), List.length_map, lw, Nat.min_eq_left (by omega), List.map_take, List.map_drop]
          congr 1
          omega
        rw [ecut]
        have g8 := g7.newm (o := .lst (((ws.drop (3 + 2 * i)).take ol).map V.str)) nps
        have mw8 := mw7.freshm (u := .lst (((ws.drop (3 + 2 * i)).take ol).map V.str)) nps
        have mp8 := mp7.freshm (u := .lst (((ws.drop (3 + 2 * i)).take ol).map V.str)) nps
        have h8 : (upd H7 ps (.lst (((ws.drop (3 + 2 * i)).take ol).map V.str))) ps = some (.lst (((ws.drop (3 + 2 * i)).take ol).map V.str)) := upd_same
        generalize upd H7 ps (.lst (((ws.drop (3 + 2 * i)).take ol).map V.str)) = H8 at g8 mw8 mp8 h8 ⊢
        refine ⟨ps, _, rfl, .inl ⟨SqL.of h8, fun t nt => ?_⟩⟩
        have g9 := g8.new (o := .tup (((ws.drop (3 + 2 * i)).take ol).map V.str)) nt
        have mw9 := mw8.fresh (u := .tup (((ws.drop (3 + 2 * i)).take ol).map V.str)) nt
        have mp9 := mp8.fresh (u := .tup (((ws.drop (3 + 2 * i)).take ol).map V.str)) nt
        have fx := Evl.Ex.new (o := .tup (((ws.drop (3 + 2 * i)).take ol).map V.str)) (sub_none g8.sub nt)
        have dt : Dp K (upd F6 t (.tup (((ws.drop (3 + 2 * i)).take ol).map V.str))) (.ref t) (ts ((ws.drop (3 + 2 * i)).take ol)) := .tup (SqT.of upd_same) (DpAll.strs _)
        have lo : ((ws.drop (3 + 2 * i)).take ol).length = ol := by
          rw [List.length_take, List.length_drop, lw]
          omega
        have dx9 := dx.ex fx
        generalize upd F6 t (.tup (((ws.drop (3 + 2 * i)).take ol).map V.str)) = F9 at g9 mw9 mp9 dt dx9 fx
        generalize upd H8 t (.tup (((ws.drop (3 + 2 * i)).take ol).map V.str)) = H9 at g9 mw9 mp9 ⊢
        refine ⟨.ref pp, rfl, .inl ⟨rfl, _, mp9.L⟩, .ref d, rfl, .ref pw, rfl, .int (0 + (i : Int)), rfl, _, _, rfl, rfl, ?_⟩
        have h9 : 9 + i < ws.length := by rw [lw]; omega
        have eat : atI (ws.map V.str) (9 + (0 + (i : Int))) = some (.str ws[9 + i]) := by
          have : 9 + (0 + (i : Int)) = ((9 + i : Nat) : Int) := by omega
          rw [this]
          apply atI_nat
          rw [List.getElem?_map, List.getElem?_eq_getElem h9]
          rfl
        refine ⟨pw, _, _, _, rfl, rfl, mw9.L, eat, .int sh, rfl, .ref t, rfl, .int calls, rfl, .int mr, rfl, d, l, ws[9 + i], sh, calls, mr, (ws.drop (3 + 2 * i)).take ol, .ref t, F9, rfl, g9.w, dt, by rw [lo]; omega, by omega, by omega, by omega, by omega, fun v F10 H10 rows g10 dv hrows => ?_⟩
        have mp10 := mp9.go g10
        have hl : xs.length ≤ 1000 := by rw [dx.length, List.length_map, lp]; omega
        refine ⟨pp, xs, v, rfl, rfl, mp10.h, small1000 hl, F10, xs ++ [v], parts ++ [⟨ws[9 + i], (ws.drop (3 + 2 * i)).take ol, rows⟩], _, _, rfl, (g9.trans g10).mut nppH mp10, (mw9.go g10).other nwp, mp10.put, ?_, by rw [List.length_append, lp]; rfl, fun k p ek => ?_⟩
        · rw [List.map_append]
          exact (dx9.ex g10.fz).snoc dv
        · by_cases hk : k < parts.length
          · rw [List.getElem?_append_left hk] at ek
            exact hp k p ek
          · have hlt := (List.getElem?_eq_some_iff.mp ek).1
            rw [List.length_append] at hlt
            have hk2 : k = parts.length := by
              simp at hlt
              omega
            subst hk2
            rw [List.getElem?_append_right (Nat.le_refl _), Nat.sub_self] at ek
            have ep : (⟨ws[9 + i], (ws.drop (3 + 2 * i)).take ol, rows⟩ : Part) = p := by simpa using ek
            subst ep
            rw [lp]
            obtain ⟨q1, q2, q3⟩ := hrows
            refine ⟨List.getElem?_eq_getElem h9, ol, ho2, rfl, hom, ?_⟩
            rw [lo] at q3 ⊢
            exact ⟨q1, q2, fun r hr => ⟨okDeed_mono hcalls (q3 r hr).1, (q3 r hr).2⟩⟩
      · obtain ⟨F6, xs, parts, y9, y10, rfl, g6, mw6, mp6, dx, lp, hp⟩ := h
        exact ⟨F6, xs, parts, _, _, rfl, g6, mw6, mp6, dx, by rw [lp]; omega, hp⟩
    · rintro σ H6 ⟨F6, xs, parts, y9, y10, rfl, g6, mw6, mp6, dx, lp, hp⟩
      refine ⟨.ref pw, rfl, .int sh, rfl, _, rfl, pw, _, rfl, mw6.L, fun ps nps => ?_⟩
      have ecut : cutV (ws.map V.str) none (some (sh : Int)) = (ws.take sh).map V.str := by
        unfold cutV
        rw [HT.sIx_none, HT.sIx_nat, List.drop_zero, List.length_map, Nat.min_eq_left (by omega), Nat.sub_zero, List.map_take]
      rw [ecut]
      have g7 := g6.newm (o := .lst ((ws.take sh).map V.str)) nps
      have mp7 := mp6.freshm (u := .lst ((ws.take sh).map V.str)) nps
      refine ⟨ps, _, rfl, .inl ⟨SqL.of upd_same, fun t nt => ?_⟩⟩
      have g8 := g7.new (o := .tup ((ws.take sh).map V.str)) nt
      have mp8 := mp7.fresh (u := .tup ((ws.take sh).map V.str)) nt
      have fx := Evl.Ex.new (o := .tup ((ws.take sh).map V.str)) (sub_none g7.sub nt)
      refine ⟨.ref pp, rfl, pp, xs, rfl, .inl ⟨mp8.L, fun t2 nt2 => ?_⟩⟩
      have g9 := g8.new (o := .tup xs) nt2
      have fx2 := Evl.Ex.new (o := .tup xs) (sub_none g8.sub nt2)
      refine ⟨by show 2 ≤ sizeLine; decide, fun t3 nt3 => ?_⟩
      have g10 := g9.new (o := .tup [.ref t, .ref t2]) nt3
      have fx3 := Evl.Ex.new (o := .tup [.ref t, .ref t2]) (sub_none g9.sub nt3)
      refine q _ _ _ ⟨ws.take sh, parts⟩ g10 (.tup (SqT.of upd_same) (.cons ?_ (.cons ?_ .nil))) ⟨ws, lw, ndw, hw, sh, rfl, by omega, by show 1 ≤ parts.length; omega, by show parts.length ≤ mp; omega, fun k p e => by have := hp k p e; rw [← lp] at this; exact this⟩
      · exact Dp.ex fx3 (Dp.ex fx2 (.tup (SqT.of upd_same) (DpAll.strs _)))
      · exact Dp.ex fx3 (.tup (SqT.of upd_same) ((dx.ex fx).ex fx2))

/-! ### programs looked at -/
theorem ok_need {k : Nat} (T : Txt K mg) : FnOk P w K mg base CX0 (k + 1) T.f_need T.fd_need ["good", "word", "part", "row"] sp_need := by
  refine T.F_need.ok sc_need (fun vs H Q E h => ?_) (fun cdv A outer s H vs Q E hr h => ?_)
  · obtain ⟨g, a, b, c, rfl, _⟩ := h
    rfl
  · obtain ⟨g, a, b, c, rfl, rfl, q⟩ := h
    refine ⟨_, (pss_one (ps_if (pt_not (pt_val (pv 0))) pss_never pss_nil)), ?_⟩
    exact ⟨.bl true, rfl, _, rfl, q⟩
theorem ok_rising {k : Nat} (T : Txt K mg) : FnOk P w K mg base CX0 (k + 1) T.f_rising T.fd_rising ["numbers"] (sp_rising K) := by
  refine T.F_rising.ok sc_rising (fun vs H Q E h => ?_) (fun cdv A outer s H vs Q E hr h => ?_)
  · obtain ⟨a, g, rfl, _⟩ := h
    rfl
  · obtain ⟨a, g, rfl, sg, lg, pw, q⟩ := h
    refine ⟨_, (pss_one (ps_ret (pe_callB (cr_allK (K := K) rfl) (by rfl) T.z_all bt_all (pa_cons (pe_lc (own := [("k", 1)]) (g := gName 1) (tt := tYes) rfl sc_rising.nd (pi_range2 (by rfl) T.z_range (pa_cons pe_int (pa_cons (pe_callB (call_lenK (K := K)) (by rfl) T.z_len bt_len (pa_cons (pv 0) pa_nil)) pa_nil))) (blkOk_by (own := [("k", 1)]) (N := nm_rising) (sc := defScope st_rising) (by decide +kernel)) (fun _ _ _ _ _ => (pg_name (i := 1) sc_rising.nd rfl (Or.inl rfl))) (fun _ _ _ _ _ => pts_nil) (fun _ _ _ _ _ => (pe_cmpR op_lt (pe_ix (ix_tupK (K := K)) (pv 0) (pe_op op_sub (pv 1) pe_int) (fun _ _ => rfl)) (pe_ix (ix_tupK (K := K)) (pv 0) (pv 1) (fun _ _ => rfl)) (nomark _)))) pa_nil)))), ?_⟩
    refine ⟨.ref a, rfl, a, _, rfl, .inr sg, _, _, rfl, ⟨by omega, by omega, by omega, by rw [List.length_map]; omega⟩, fun D nD => ?_⟩
    refine lc_range (fun i H' => Ex H H' ∧ H' D = some (.lst ((List.replicate i true).map V.bl))) ⟨Evl.Ex.new nD, upd_same⟩ (fun i H' hi h => ?_) (fun H' h => ?_)
    · obtain ⟨x, hD⟩ := h
      rw [List.length_map] at hi
      have hi1 : i < g.length := by omega
      have hi2 : i + 1 < g.length := by omega
      have e1 : atI (g.map V.int) (1 + (i : Int) - 1) = some (.int g[i]) := by
        have : 1 + (i : Int) - 1 = ((i : Nat) : Int) := by omega
        rw [this]
        exact atI_nat (by rw [List.getElem?_map, List.getElem?_eq_getElem hi1]; rfl)
      have e2 : atI (g.map V.int) (1 + (i : Int)) = some (.int g[i + 1]) := by
        have : 1 + (i : Int) = ((i + 1 : Nat) : Int) := by omega
        rw [this]
        exact atI_nat (by rw [List.getElem?_map, List.getElem?_eq_getElem hi2]; rfl)
      have lt : g[i] < g[i + 1] := List.pairwise_iff_getElem.mp pw i (i + 1) hi1 hi2 (by omega)
      refine ⟨rfl, .ref a, rfl, .int (1 + (i : Int)), rfl, _, _, rfl, rfl, a, _, _, _, rfl, rfl, ex_T x sg, e1, .ref a, rfl, .int (1 + (i : Int)), rfl, a, _, _, _, rfl, rfl, ex_T x sg, e2, _, _, rfl, rfl, _, hD, ?_, Evl.Ex.mut x nD, ?_⟩
      · rw [List.length_map, List.length_replicate]
        exact small1000 (by omega)
      · rw [upd_same]
        exact snoc_true (decide_eq_true lt)
    · refine ⟨D, _, rfl, SqL.of h.2, ?_⟩
      have e : ∀ n : Nat, (List.replicate n true).all id = true := fun n => by
        rw [List.all_eq_true]
        intro x hx
        rw [List.eq_of_mem_replicate hx]
        rfl
      rw [e]
      exact q H' h.1
theorem all_true (n : Nat) : (List.replicate n true).all id = true := by
  rw [List.all_eq_true]
  intro x hx
  rw [List.eq_of_mem_replicate hx]
  rfl
theorem ok_look_row {k : Nat} (T : Txt K mg) : FnOk P w K mg base CX0 (k + 2) T.f_look_row T.fd_look_row ["program", "p", "k"] (sp_look_row K) := by
  have G_need : FnOk P w K mg base CX0 1 T.f_need T.fd_need ["good", "word", "part", "row"] sp_need := ok_need T
  have G_rising : FnOk P w K mg base CX0 1 T.f_rising T.fd_rising ["numbers"] (sp_rising K) := ok_rising T
  refine T.F_look_row.ok sc_look_row (fun vs H Q E h => ?_) (fun cdv A outer s H vs Q E hr h => ?_)
  · obtain ⟨v, p, i, j, q, rfl, _⟩ := h
    rfl
  · obtain ⟨v, p, i, j, q, rfl, dv, L, eq, hj, fin⟩ := h
    obtain ⟨a, as, ap, xp, rfl, s0, ss, sp, dxp, lxp⟩ := dp_prog dv
    obtain ⟨xq, exq, dq⟩ := dp_at dxp eq
    obtain ⟨aq, ao, ar, xr, rfl, sq, so, sr, dxr, lxr⟩ := dp_part dq
    have er : q.rows[j]? = some q.rows[j] := List.getElem?_eq_getElem hj
    obtain ⟨xd, exd, dr⟩ := dp_at dxr er
    obtain ⟨aw, ad, ag, rfl, sw, dd, sg⟩ := dp_row dr
    obtain ⟨nd, l3, r1, r5, rows⟩ := L.part q (List.mem_of_getElem? eq)
    obtain ⟨hd, g1, g3, gp, gb⟩ := rows q.rows[j] (List.getElem_mem hj)
    generalize hgr : q.rows[j] = rw0 at hd g1 g3 gp gb sg dd
    obtain ⟨dee, go⟩ := rw0
    dsimp only at hd g1 g3 gp gb sg dd
    refine ⟨_, (pss_cons (ps_asg (pv 0) (pg_tupK (K := K) rfl (pgs_cons (pg_name (i := 3) sc_look_row.nd rfl (Or.inl rfl)) (pgs_cons (pg_name (i := 4) sc_look_row.nd rfl (Or.inl rfl)) pgs_nil))))
      (pss_cons (ps_asg (pe_ix (ix_tupK (K := K)) (pv 4) (pv 1) (fun _ _ => rfl)) (pg_tupK (K := K) rfl (pgs_cons (pg_name (i := 5) sc_look_row.nd rfl (Or.inl rfl)) (pgs_cons (pg_name (i := 6) sc_look_row.nd rfl (Or.inl rfl)) (pgs_cons (pg_name (i := 7) sc_look_row.nd rfl (Or.inr rfl)) pgs_nil)))))
      (pss_cons (ps_asg (pe_ix (ix_tupK (K := K)) (pv 7) (pv 2) (fun _ _ => rfl)) (pg_tupK (K := K) rfl (pgs_cons (pg_name (i := 8) sc_look_row.nd rfl (Or.inl rfl)) (pgs_cons (pg_name (i := 9) sc_look_row.nd rfl (Or.inl rfl)) pgs_nil))))
      (pss_cons (ps_set (i := 10) sc_look_row.nd rfl (Or.inl rfl) (pe_op op_add (pe_callB (call_lenK (K := K)) (by rfl) T.z_len bt_len (pa_cons (pv 3) pa_nil)) (pe_callB (call_lenK (K := K)) (by rfl) T.z_len bt_len (pa_cons (pv 6) pa_nil))))
      (Evl.pss_cut (ps_if (pt_cmpR (op_inK (K := K)) (pe_ix (ix_tupK (K := K)) (pv 8) pe_int (fun _ _ => rfl)) (pe_tup (pa_cons pe_str (pa_cons pe_str pa_nil))) rfl) (pss_one (ps_expr (pe_call G_need (hr.mono (by omega)) (by rfl) T.g_need T.F_need.kp T.b_need .nil pass0 (pa_cons (pe_chain op_le op_lt pe_int (pe_ix (ix_tupK (K := K)) (pv 8) pe_int (fun _ _ => rfl)) (pv 10)) (pa_cons pe_str (pa_cons (pv 1) (pa_cons (pv 2) pa_nil))))))) pss_nil)
      (Evl.pss_cut (ps_if (pt_cmpR op_eq (pe_ix (ix_tupK (K := K)) (pv 8) pe_int (fun _ _ => rfl)) pe_str (nomark _)) (pss_cons (ps_set (i := 11) sc_look_row.nd rfl (Or.inl rfl) (pe_and (pe_cmpR op_eq (pe_callB (call_lenK (K := K)) (by rfl) T.z_len bt_len (pa_cons (pe_ix (ix_tupK (K := K)) (pv 8) pe_int (fun _ _ => rfl)) pa_nil)) (pe_op op_add (pv 10) pe_int) (nomark _)) (pe_one (pe_callB (cr_allK (K := K) rfl) (by rfl) T.z_all bt_all (pa_cons (pe_lc (own := [("number", 12)]) (g := gName 12) (tt := tYes) rfl sc_look_row.nd (pi_tupK (K := K) (pe_ix (ix_tupK (K := K)) (pv 8) pe_int (fun _ _ => rfl))) (blkOk_by (own := [("number", 12)]) (N := nm_look_row) (sc := defScope st_look_row) (by decide +kernel)) (fun _ _ _ _ _ => (pg_name (i := 12) sc_look_row.nd rfl (Or.inl rfl))) (fun _ _ _ _ _ => pts_nil) (fun _ _ _ _ _ => (pe_cmpR op_le (pe_callB call_abs (by rfl) T.z_abs bt_abs (pa_cons (pv 12) pa_nil)) (pe_glob rfl T.g_GREATEST (T.r_GREATEST)) (nomark _)))) pa_nil)))))
        (pss_one (ps_expr (pe_call G_need (hr.mono (by omega)) (by rfl) T.g_need T.F_need.kp T.b_need .nil pass0 (pa_cons (pv 11) (pa_cons pe_str (pa_cons (pv 1) (pa_cons (pv 2) pa_nil)))))))) pss_nil)
      (Evl.pss_cut (ps_if (pt_cmpR op_eq (pe_ix (ix_tupK (K := K)) (pv 8) pe_int (fun _ _ => rfl)) pe_str (nomark _)) (pss_one (ps_expr (pe_call G_need (hr.mono (by omega)) (by rfl) T.g_need T.F_need.kp T.b_need .nil pass0 (pa_cons (pe_chain op_le op_lt pe_int (pe_ix (ix_tupK (K := K)) (pv 8) pe_int (fun _ _ => rfl)) (pe_callB (call_lenK (K := K)) (by rfl) T.z_len bt_len (pa_cons (pv 4) pa_nil))) (pa_cons pe_str (pa_cons (pv 1) (pa_cons (pv 2) pa_nil))))))) pss_nil)
      (pss_cons (ps_expr (pe_call G_need (hr.mono (by omega)) (by rfl) T.g_need T.F_need.kp T.b_need .nil pass0 (pa_cons (pe_and (pe_chain op_le op_le pe_int (pe_callB (call_lenK (K := K)) (by rfl) T.z_len bt_len (pa_cons (pv 9) pa_nil)) (pe_glob rfl T.g_MOST_GOINGS (T.r_MOST_GOINGS))) (pe_one (pe_call G_rising (hr.mono (by omega)) (by rfl) T.g_rising T.F_rising.kp T.b_rising .nil pass0 (pa_cons (pv 9) pa_nil)))) (pa_cons pe_str (pa_cons (pv 1) (pa_cons (pv 2) pa_nil))))))
      (pss_one (ps_expr (pe_call G_need (hr.mono (by omega)) (by rfl) T.g_need T.F_need.kp T.b_need .nil pass0 (pa_cons (pe_callB (cr_allK (K := K) rfl) (by rfl) T.z_all bt_all (pa_cons (pe_lc (own := [("going", 13)]) (g := gName 13) (tt := tYes) rfl sc_look_row.nd (pi_tupK (K := K) (pv 9)) (blkOk_by (own := [("going", 13)]) (N := nm_look_row) (sc := defScope st_look_row) (by decide +kernel)) (fun _ _ _ _ _ => (pg_name (i := 13) sc_look_row.nd rfl (Or.inl rfl))) (fun _ _ _ _ _ => pts_nil) (fun _ _ _ _ _ => (pe_chain op_le op_le pe_int (pv 13) (pe_callB (call_lenK (K := K)) (by rfl) T.z_len bt_len (pa_cons (pv 7) pa_nil))))) pa_nil)) (pa_cons pe_str (pa_cons (pv 1) (pa_cons (pv 2) pa_nil))))))))))))))), ?_⟩
    refine ⟨.ref a, rfl, a, _, rfl, s0, rfl, _, _, rfl, _, [], rfl, rfl, ?_⟩
    refine ⟨.ref ap, rfl, .int i, rfl, ap, _, _, _, rfl, rfl, sp, atI_nat exq, aq, _, rfl, sq, rfl, _, _, rfl, _, _, rfl, _, [], rfl, rfl, ?_⟩
    refine ⟨.ref ar, rfl, .int j, rfl, ar, _, _, _, rfl, rfl, sr, atI_nat exd, aw, _, rfl, sw, rfl, _, _, rfl, _, [], rfl, rfl, ?_⟩
    refine ⟨.ref as, rfl, as, _, rfl, .inr ss, .ref ao, rfl, ao, _, rfl, .inr so, _, _, rfl, rfl, ?_⟩
    rw [List.length_map, List.length_map]
    have en : (p.shared.length : Int) + (q.own.length : Int) = ((p.shared.length + q.own.length : Nat) : Int) := by omega
    generalize hn : p.shared.length + q.own.length = n at en hd l3
    dsimp only
    rw [en]
    refine ⟨fun σ H' => σ = [some (.ref a), some (.int i), some (.int j), some (.ref as), some (.ref ap), some (.str q.name), some (.ref ao), some (.ref ar), some (.ref ad), some (.ref ag), some (.int n), none, none, none] ∧ Ex H H', ?_, ?_⟩
    · cases dee with
      | call c =>
        obtain ⟨b, x, y, e, sb, dx, dy⟩ := dp2 dd
        cases e
        cases dx.str_inv
        exact ⟨.ref ad, rfl, ad, _, 0, _, rfl, rfl, sb, rfl, by show 2 ≤ sizeLine; decide, fun t nt => ⟨t, _, rfl, .inr (SqT.of upd_same), rfl, rfl, _, rfl, iteF' (by decide +kernel) ⟨rfl, Evl.Ex.new nt⟩⟩⟩
      | rest =>
        obtain ⟨b, x, e, sb, dx⟩ := dp1 dd
        cases e
        cases dx.str_inv
        exact ⟨.ref ad, rfl, ad, _, 0, _, rfl, rfl, sb, rfl, by show 2 ≤ sizeLine; decide, fun t nt => ⟨t, _, rfl, .inr (SqT.of upd_same), rfl, rfl, _, rfl, iteF' (by decide +kernel) ⟨rfl, Evl.Ex.new nt⟩⟩⟩
      | any c =>
        obtain ⟨b, x, y, e, sb, dx, dy⟩ := dp2 dd
        cases e
        cases dx.str_inv
        cases dy.int_inv
        have hd' : c < n := hd
        refine ⟨.ref ad, rfl, ad, _, 0, _, rfl, rfl, sb, rfl, by show 2 ≤ sizeLine; decide, fun t nt => ⟨t, _, rfl, .inr (SqT.of upd_same), rfl, rfl, _, rfl, iteT' (by decide +kernel) ?_⟩⟩
        have x1 := Evl.Ex.new (o := .tup [.str "set", .str "any"]) nt
        exact ⟨.ref ad, rfl, ad, _, 1, _, rfl, rfl, ex_T x1 sb, rfl, _, _, rfl, rfl, _, rfl, iteD (by omega) ⟨.int n, rfl, _, _, rfl, rfl, .int i, rfl, .int j, rfl, _, _, _, _, rfl, decide_eq_true (by omega), rfl, x1⟩⟩
      | set c s =>
        obtain ⟨b, x, y, z, e, sb, dx, dy, dz⟩ := dp3 dd
        cases e
        cases dx.str_inv
        cases dy.int_inv
        have hd' : c < n := hd.1
        refine ⟨.ref ad, rfl, ad, _, 0, _, rfl, rfl, sb, rfl, by show 2 ≤ sizeLine; decide, fun t nt => ⟨t, _, rfl, .inr (SqT.of upd_same), rfl, rfl, _, rfl, iteT' (by decide +kernel) ?_⟩⟩
        have x1 := Evl.Ex.new (o := .tup [.str "set", .str "any"]) nt
        exact ⟨.ref ad, rfl, ad, _, 1, _, rfl, rfl, ex_T x1 sb, rfl, _, _, rfl, rfl, _, rfl, iteD (by omega) ⟨.int n, rfl, _, _, rfl, rfl, .int i, rfl, .int j, rfl, _, _, _, _, rfl, decide_eq_true (by omega), rfl, x1⟩⟩
    rintro σ H1 ⟨rfl, x1⟩
    refine ⟨fun σ H' => (∃ y11, σ = [some (.ref a), some (.int i), some (.int j), some (.ref as), some (.ref ap), some (.str q.name), some (.ref ao), some (.ref ar), some (.ref ad), some (.ref ag), some (.int n), y11, none, none]) ∧ Ex H H', ?_, ?_⟩
    · cases dee with
      | call c =>
        obtain ⟨b, x, y, e, sb, dx, dy⟩ := dp2 dd
        cases e
        cases dx.str_inv
        exact ⟨.ref ad, rfl, ad, _, 0, _, rfl, rfl, ex_T x1 sb, rfl, rfl, _, rfl, iteN (by decide +kernel) ⟨⟨_, rfl⟩, x1⟩⟩
      | rest =>
        obtain ⟨b, x, e, sb, dx⟩ := dp1 dd
        cases e
        cases dx.str_inv
        exact ⟨.ref ad, rfl, ad, _, 0, _, rfl, rfl, ex_T x1 sb, rfl, rfl, _, rfl, iteN (by decide +kernel) ⟨⟨_, rfl⟩, x1⟩⟩
      | any c =>
        obtain ⟨b, x, y, e, sb, dx, dy⟩ := dp2 dd
        cases e
        cases dx.str_inv
        exact ⟨.ref ad, rfl, ad, _, 0, _, rfl, rfl, ex_T x1 sb, rfl, rfl, _, rfl, iteN (by decide +kernel) ⟨⟨_, rfl⟩, x1⟩⟩
      | set c s =>
        obtain ⟨b, x, y, z, e, sb, dx, dy, dz⟩ := dp3 dd
        cases e
        cases dx.str_inv
        obtain ⟨az, rfl, sz⟩ := dz.ti_inv
        obtain ⟨_, ls, hs⟩ := hd
        have els : ((s.length : Nat) : Int) = (n : Int) + 1 := by omega
        refine ⟨.ref ad, rfl, ad, _, 0, _, rfl, rfl, ex_T x1 sb, rfl, rfl, _, rfl, iteD rfl ?_⟩
        refine ⟨.ref ad, rfl, ad, _, 2, _, rfl, rfl, ex_T x1 sb, rfl, az, _, rfl, .inr (ex_T x1 sz), .int n, rfl, _, _, rfl, rfl, rfl, _, rfl, iteD (by rw [List.length_map, els]) ?_⟩
        refine ⟨.ref ad, rfl, ad, _, 2, _, rfl, rfl, ex_T x1 sb, rfl, az, rfl, ⟨_, ex_T x1 sz⟩, fun D nD => ?_⟩
        refine lc_it (walk_tup (K := K) (a := az) (xs := s.map V.int)) (fun i H' => Ex H1 H' ∧ H' D = some (.lst ((List.replicate i true).map V.bl))) ⟨Evl.Ex.new nD, upd_same⟩ (fun i H' _ h => ex_T h.1 (ex_T x1 sz)) (fun i x H' H'' hi h y => ?_) (fun H' h => ?_)
        · obtain ⟨xx, hD⟩ := h
          obtain ⟨rfl, hx⟩ := y
          obtain ⟨z, ez, rfl⟩ := int_get hx
          have hz := hs z (List.mem_of_getElem? ez)
          rw [List.length_map] at hi
          refine ⟨rfl, .int z, rfl, z, rfl, _, _, rfl, rfl, _, hD, ?_, Evl.Ex.mut xx nD, ?_⟩
          · rw [List.length_map, List.length_replicate]
            exact small1000 (by omega)
          · rw [upd_same]
            refine snoc_true (decide_eq_true ?_)
            split <;> omega
        · refine ⟨D, _, rfl, SqL.of h.2, ?_⟩
          rw [all_true]
          exact ⟨.bl true, rfl, .int i, rfl, .int j, rfl, _, _, _, _, rfl, rfl, ⟨_, rfl⟩, x1.trans h.1⟩
    rintro σ H2 ⟨⟨y11, rfl⟩, x2⟩
    refine ⟨fun σ H' => σ = [some (.ref a), some (.int i), some (.int j), some (.ref as), some (.ref ap), some (.str q.name), some (.ref ao), some (.ref ar), some (.ref ad), some (.ref ag), some (.int n), y11, none, none] ∧ Ex H H', ?_, ?_⟩
    · cases dee with
      | call c =>
        obtain ⟨b, x, y, e, sb, dx, dy⟩ := dp2 dd
        cases e
        cases dx.str_inv
        cases dy.int_inv
        have hd' : c < p.parts.length := hd
        exact ⟨.ref ad, rfl, ad, _, 0, _, rfl, rfl, ex_T x2 sb, rfl, rfl, _, rfl, iteD rfl ⟨.ref ad, rfl, ad, _, 1, _, rfl, rfl, ex_T x2 sb, rfl, _, _, rfl, rfl, _, rfl, iteD (by omega) ⟨.ref ap, rfl, ap, _, rfl, .inr (ex_T x2 sp), _, _, rfl, rfl, .int i, rfl, .int j, rfl, _, _, _, _, rfl, decide_eq_true (by rw [lxp]; omega), rfl, x2⟩⟩⟩
      | rest =>
        obtain ⟨b, x, e, sb, dx⟩ := dp1 dd
        cases e
        cases dx.str_inv
        exact ⟨.ref ad, rfl, ad, _, 0, _, rfl, rfl, ex_T x2 sb, rfl, rfl, _, rfl, iteN (by decide +kernel) ⟨rfl, x2⟩⟩
      | any c =>
        obtain ⟨b, x, y, e, sb, dx, dy⟩ := dp2 dd
        cases e
        cases dx.str_inv
        exact ⟨.ref ad, rfl, ad, _, 0, _, rfl, rfl, ex_T x2 sb, rfl, rfl, _, rfl, iteN (by decide +kernel) ⟨rfl, x2⟩⟩
      | set c s =>
        obtain ⟨b, x, y, z, e, sb, dx, dy, dz⟩ := dp3 dd
        cases e
        cases dx.str_inv
        exact ⟨.ref ad, rfl, ad, _, 0, _, rfl, rfl, ex_T x2 sb, rfl, rfl, _, rfl, iteN (by decide +kernel) ⟨rfl, x2⟩⟩
    rintro σ H3 ⟨rfl, x3⟩
    refine ⟨.ref ag, rfl, ag, _, rfl, .inr (ex_T x3 sg), _, _, rfl, rfl, _, rfl, iteD (by rw [List.length_map]; omega) ⟨_, _, rfl, rfl, _, rfl, iteD (by rw [List.length_map]; omega) ?_⟩⟩
    refine ⟨.ref ag, rfl, ag, go, rfl, ex_T x3 sg, by omega, gp, fun H4 x4 => ⟨.int i, rfl, .int j, rfl, _, _, _, _, rfl, rfl, ?_⟩⟩
    have x4' := x3.trans x4
    refine ⟨.ref ag, rfl, ag, rfl, ⟨_, ex_T x4' sg⟩, fun D nD => ?_⟩
    refine lc_it (walk_tup (K := K) (a := ag) (xs := go.map V.int)) (fun i H' => Ex H4 H' ∧ H' D = some (.lst ((List.replicate i true).map V.bl))) ⟨Evl.Ex.new nD, upd_same⟩ (fun i H' _ h => ex_T h.1 (ex_T x4' sg)) (fun i x H' H'' hi h y => ?_) (fun H' h => ?_)
    · obtain ⟨xx, hD⟩ := h
      obtain ⟨rfl, hx⟩ := y
      obtain ⟨z, ez, rfl⟩ := int_get hx
      have hz := gb z (List.mem_of_getElem? ez)
      rw [List.length_map] at hi
      refine ⟨rfl, .int z, rfl, _, _, rfl, rfl, _, rfl, iteD (by omega) ⟨.ref ar, rfl, ar, _, rfl, .inr (ex_T (x4'.trans xx) sr), _, _, rfl, rfl, _, hD, ?_, Evl.Ex.mut xx nD, ?_⟩⟩
      · rw [List.length_map, List.length_replicate]
        exact small1000 (by omega)
      · rw [upd_same]
        exact snoc_true (decide_eq_true (by rw [lxr]; exact hz.2))
    · refine ⟨D, _, rfl, SqL.of h.2, ?_⟩
      rw [all_true]
      exact ⟨.int i, rfl, .int j, rfl, _, _, _, _, rfl, rfl, fin H' (x4'.trans h.1)⟩

theorem ok_look_part {k : Nat} (T : Txt K mg) : FnOk P w K mg base CX0 (k + 3) T.f_look_part T.fd_look_part ["program", "p"] (sp_look_part K) := by
  have G_need : FnOk P w K mg base CX0 1 T.f_need T.fd_need ["good", "word", "part", "row"] sp_need := ok_need T
  have G_look_row : FnOk P w K mg base CX0 2 T.f_look_row T.fd_look_row ["program", "p", "k"] (sp_look_row K) := ok_look_row T
  refine T.F_look_part.ok sc_look_part (fun vs H Q E h => ?_) (fun cdv A outer s H vs Q E hr h => ?_)
  · obtain ⟨v, p, i, rfl, _⟩ := h
    rfl
  · obtain ⟨v, p, i, rfl, dv, L, hi, fin⟩ := h
    have eq : p.parts[i]? = some p.parts[i] := List.getElem?_eq_getElem hi
    obtain ⟨nd, l3, r1, r5, rows⟩ := L.part p.parts[i] (List.getElem_mem hi)
    generalize p.parts[i] = q at eq nd l3 r1 r5 rows
    obtain ⟨a, as, ap, xp, rfl, s0, ss, sp, dxp, lxp⟩ := dp_prog dv
    obtain ⟨xq, exq, dq⟩ := dp_at dxp eq
    obtain ⟨aq, ao, ar, xr, rfl, sq, so, sr, dxr, lxr⟩ := dp_part dq
    refine ⟨_, (pss_cons (ps_asg (pv 0) (pg_tupK (K := K) rfl (pgs_cons (pg_name (i := 2) sc_look_part.nd rfl (Or.inl rfl)) (pgs_cons (pg_name (i := 3) sc_look_part.nd rfl (Or.inr rfl)) pgs_nil))))
      (pss_cons (ps_asg (pe_ix (ix_tupK (K := K)) (pv 3) (pv 1) (fun _ _ => rfl)) (pg_tupK (K := K) rfl (pgs_cons (pg_name (i := 4) sc_look_part.nd rfl (Or.inl rfl)) (pgs_cons (pg_name (i := 5) sc_look_part.nd rfl (Or.inl rfl)) (pgs_cons (pg_name (i := 6) sc_look_part.nd rfl (Or.inl rfl)) pgs_nil)))))
      (pss_cons (ps_expr (pe_call G_need (hr.mono (by omega)) (by rfl) T.g_need T.F_need.kp T.b_need .nil pass0 (pa_cons (pe_cmpR (op_notInK (K := K)) (pv 4) (pe_lc (own := [("q", 7)]) (g := gName 7) (tt := tYes) rfl sc_look_part.nd (pi_range1 (by rfl) T.z_range (pa_cons (pv 1) pa_nil)) (blkOk_by (own := [("q", 7)]) (N := nm_look_part) (sc := defScope st_look_part) (by decide +kernel)) (fun _ _ _ _ _ => (pg_name (i := 7) sc_look_part.nd rfl (Or.inl rfl))) (fun _ _ _ _ _ => pts_nil) (fun _ _ _ _ _ => (pe_ix (ix_tupK (K := K)) (pe_ix (ix_tupK (K := K)) (pv 3) (pv 7) (fun _ _ => rfl)) pe_int (fun _ _ => rfl)))) rfl) (pa_cons pe_str (pa_cons (pv 1) (pa_cons (pe_un un_neg pe_int) pa_nil))))))
      (pss_cons (ps_set (i := 8) sc_look_part.nd rfl (Or.inl rfl) (pe_op (op_catK (K := K)) (pv 2) (pv 5)))
      (Evl.pss_cut (ps_for PassesOwn.never rfl (pi_range2 (by rfl) T.z_range (pa_cons (pe_callB (call_lenK (K := K)) (by rfl) T.z_len bt_len (pa_cons (pv 2) pa_nil)) (pa_cons (pe_callB (call_lenK (K := K)) (by rfl) T.z_len bt_len (pa_cons (pv 8) pa_nil)) pa_nil))) (pg_name (i := 9) sc_look_part.nd rfl (Or.inl rfl))
        (pss_one (ps_expr (pe_call G_need (hr.mono (by omega)) (by rfl) T.g_need T.F_need.kp T.b_need .nil pass0 (pa_cons (pe_cmpR (op_notInK (K := K)) (pe_ix (ix_tupK (K := K)) (pv 8) (pv 9) (fun _ _ => rfl)) (pe_slice (sl_tupK (K := K)) (pv 8) po_none (po_some (pv 9))) rfl) (pa_cons pe_str (pa_cons (pv 1) (pa_cons (pv 9) pa_nil))))))))
      (pss_cons (ps_expr (pe_call G_need (hr.mono (by omega)) (by rfl) T.g_need T.F_need.kp T.b_need .nil pass0 (pa_cons (pe_and (pe_chain op_le op_le pe_int (pe_callB (call_lenK (K := K)) (by rfl) T.z_len bt_len (pa_cons (pv 6) pa_nil)) (pe_glob rfl T.g_MOST_ROWS (T.r_MOST_ROWS))) (pe_one (pe_cmpR op_le (pe_callB (call_lenK (K := K)) (by rfl) T.z_len bt_len (pa_cons (pv 8) pa_nil)) (pe_glob rfl T.g_MOST_BOXES (T.r_MOST_BOXES)) (nomark _)))) (pa_cons pe_str (pa_cons (pv 1) (pa_cons (pe_un un_neg pe_int) pa_nil))))))
      (pss_one (ps_for PassesOwn.never rfl (pi_range1 (by rfl) T.z_range (pa_cons (pe_callB (call_lenK (K := K)) (by rfl) T.z_len bt_len (pa_cons (pv 6) pa_nil)) pa_nil)) (pg_name (i := 10) sc_look_part.nd rfl (Or.inl rfl))
        (pss_one (ps_expr (pe_call G_look_row (hr.mono (by omega)) (by rfl) T.g_look_row T.F_look_row.kp T.b_look_row .nil pass0 (pa_cons (pv 0) (pa_cons (pv 1) (pa_cons (pv 10) pa_nil)))))))))))))), ?_⟩
    refine ⟨.ref a, rfl, a, _, rfl, s0, rfl, _, _, rfl, _, [], rfl, rfl, ?_⟩
    refine ⟨.ref ap, rfl, .int i, rfl, ap, _, _, _, rfl, rfl, sp, atI_nat exq, aq, _, rfl, sq, rfl, _, _, rfl, _, _, rfl, _, [], rfl, rfl, ?_⟩
    have lp3 := L.p3
    refine ⟨.str q.name, rfl, .int i, rfl, _, rfl, by omega, by omega, fun D nD => ?_⟩
    refine lc_range (fun j H' => Ex H H' ∧ H' D = some (.lst (((p.parts.take j).map Part.name).map V.str))) ⟨Evl.Ex.new nD, upd_same⟩ (fun j H' hj h => ?_) (fun H1 h => ?_)
    · obtain ⟨x, hD⟩ := h
      have hj' : j < p.parts.length := by omega
      have ej : p.parts[j]? = some p.parts[j] := List.getElem?_eq_getElem hj'
      obtain ⟨xj, exj, dj⟩ := dp_at dxp ej
      obtain ⟨aj, _, _, _, rfl, sj, _⟩ := dp_part dj
      refine ⟨rfl, .ref ap, rfl, .int (0 + (j : Int)), rfl, ap, _, _, _, rfl, rfl, ex_T x sp, by rw [Int.zero_add]; exact atI_nat exj, aj, _, 0, _, rfl, rfl, ex_T x sj, rfl, _, hD, ?_, Evl.Ex.mut x nD, ?_⟩
      · rw [List.length_map, List.length_map, List.length_take]
        exact small1000 (by omega)
      · rw [upd_same, List.take_add_one, ej, List.map_append, List.map_append]
        rfl
    obtain ⟨x1, hD⟩ := h
    have hin : inV (.str q.name) (((p.parts.take (i : Int).toNat).map Part.name).map V.str) = false := by
      rw [Int.toNat_natCast, List.map_take]
      exact not_in_take L.names (by rw [List.getElem?_map, eq]; rfl)
    refine ⟨D, _, rfl, .inl (SqL.of hD), rfl, flat_strs' _, .int i, rfl, _, rfl, _, _, _, _, rfl, ?_, ?_⟩
    · show (!inV _ _) = true
      rw [hin]
      rfl
    refine ⟨.ref as, rfl, .ref ao, rfl, catA_by (ex_T x1 ss) (ex_T x1 so) (by rw [List.length_map, List.length_map]; omega) fun an H2 x2' sn => ?_⟩
    have x2 := x1.trans x2'
    rw [← List.map_append] at sn
    have hz : (p.shared ++ q.own).length = p.shared.length + q.own.length := List.length_append
    refine ⟨fun σ H' => (∃ y9, σ = [some (.ref a), some (.int i), some (.ref as), some (.ref ap), some (.str q.name), some (.ref ao), some (.ref ar), none, some (.ref an), y9, none]) ∧ Ex H2 H', ?_, ?_⟩
    · refine ⟨.ref as, rfl, as, _, rfl, .inr (ex_T x2 ss), .ref an, rfl, an, _, rfl, .inr sn, _, _, rfl, ⟨by omega, by rw [List.length_map]; omega, by omega, by rw [List.length_map]; omega⟩, for_range (fun j σ H' => (∃ y9, σ = [some (.ref a), some (.int i), some (.ref as), some (.ref ap), some (.str q.name), some (.ref ao), some (.ref ar), none, some (.ref an), y9, none]) ∧ Ex H2 H') ⟨⟨_, rfl⟩, Evl.Ex.refl _⟩ (fun j σ H' hj h => ?_) (fun σ H' h => h)⟩
      obtain ⟨⟨y9, rfl⟩, x⟩ := h
      rw [List.length_map, List.length_map] at hj
      have hjn : p.shared.length + j < (p.shared ++ q.own).length := by omega
      have e1 : ((p.shared.map V.str).length : Int) + (j : Int) = ((p.shared.length + j : Nat) : Int) := by rw [List.length_map]; omega
      rw [e1]
      have ez : (p.shared ++ q.own)[p.shared.length + j]? = some (p.shared ++ q.own)[p.shared.length + j] := List.getElem?_eq_getElem hjn
      refine ⟨.ref an, rfl, .int ((p.shared.length + j : Nat) : Int), rfl, an, _, _, _, rfl, rfl, ex_T x sn, atI_nat (by rw [List.getElem?_map, ez]; rfl), .ref an, rfl, .int ((p.shared.length + j : Nat) : Int), rfl, _, rfl, slA_by (ex_T x sn) fun t H3 x3 st => ?_⟩
      rw [cut_takeV _ (by rw [List.length_map]; omega), ← List.map_take] at st
      refine ⟨t, _, rfl, .inr st, rfl, flat_strs' _, .int i, rfl, .int ((p.shared.length + j : Nat) : Int), rfl, _, _, _, _, rfl, ?_, ⟨_, rfl⟩, x.trans x3⟩
      show (!inV _ _) = true
      rw [not_in_take nd ez]
      rfl
    rintro σ H3 ⟨⟨y9, rfl⟩, x3'⟩
    have x3 := x2.trans x3'
    refine ⟨.ref ar, rfl, ar, _, rfl, .inr (ex_T x3 sr), _, _, rfl, rfl, _, rfl, iteD (by rw [lxr]; omega) ⟨_, _, rfl, rfl, _, rfl, iteD (by rw [lxr]; omega) ?_⟩⟩
    refine ⟨.ref an, rfl, an, _, rfl, .inr (ex_T x3' sn), _, _, rfl, rfl, .int i, rfl, _, rfl, _, _, _, _, rfl, decide_eq_true (by rw [List.length_map]; omega), ?_⟩
    refine ⟨.ref ar, rfl, ar, _, rfl, .inr (ex_T x3 sr), _, rfl, by rw [lxr]; omega, by rw [lxr]; omega, for_range (fun j σ H' => (∃ y10, σ = [some (.ref a), some (.int i), some (.ref as), some (.ref ap), some (.str q.name), some (.ref ao), some (.ref ar), none, some (.ref an), y9, y10]) ∧ Ex H H') ⟨⟨_, rfl⟩, x3⟩ (fun j σ H' hj h => ?_) (fun σ H' h => fin H' h.2)⟩
    obtain ⟨⟨y10, rfl⟩, x⟩ := h
    refine ⟨.ref a, rfl, .int i, rfl, .int (0 + (j : Int)), rfl, _, p, i, j, q, by rw [Int.zero_add]; rfl, dv.ex x, L, eq, by omega, fun H4 x4 => ⟨⟨_, rfl⟩, x.trans x4⟩⟩
theorem ok_look {k : Nat} (T : Txt K mg) : FnOk P w K mg base CX0 (k + 4) T.f_look T.fd_look ["program"] (sp_look K) := by
  have G_need : FnOk P w K mg base CX0 1 T.f_need T.fd_need ["good", "word", "part", "row"] sp_need := ok_need T
  have G_look_part : FnOk P w K mg base CX0 3 T.f_look_part T.fd_look_part ["program", "p"] (sp_look_part K) := ok_look_part T
  refine T.F_look.ok sc_look (fun vs H Q E h => ?_) (fun cdv A outer s H vs Q E hr h => ?_)
  · obtain ⟨v, p, rfl, _⟩ := h
    rfl
  · obtain ⟨v, p, rfl, dv, L, fin⟩ := h
    obtain ⟨a, as, ap, xp, rfl, s0, ss, sp, dxp, lxp⟩ := dp_prog dv
    have l1 := L.p1
    have l3 := L.p3
    refine ⟨_, (pss_cons (ps_asg (pv 0) (pg_tupK (K := K) rfl (pgs_cons (pg_name (i := 1) sc_look.nd rfl (Or.inl rfl)) (pgs_cons (pg_name (i := 2) sc_look.nd rfl (Or.inl rfl)) pgs_nil))))
      (pss_cons (ps_expr (pe_call G_need (hr.mono (by omega)) (by rfl) T.g_need T.F_need.kp T.b_need .nil pass0 (pa_cons (pe_chain op_le op_le pe_int (pe_callB (call_lenK (K := K)) (by rfl) T.z_len bt_len (pa_cons (pv 2) pa_nil)) (pe_glob rfl T.g_MOST_PARTS (T.r_MOST_PARTS))) (pa_cons pe_str (pa_cons pe_int (pa_cons pe_int pa_nil))))))
      (Evl.pss_cut (ps_for PassesOwn.never rfl (pi_enumT (K := K) (by rfl) T.z_enumerate (pa_cons (pv 1) pa_nil)) (pg_tupK (K := K) rfl (pgs_cons (pg_name (i := 3) sc_look.nd rfl (Or.inl rfl)) (pgs_cons (pg_name (i := 4) sc_look.nd rfl (Or.inl rfl)) pgs_nil)))
        (pss_one (ps_expr (pe_call G_need (hr.mono (by omega)) (by rfl) T.g_need T.F_need.kp T.b_need .nil pass0 (pa_cons (pe_cmpR (op_notInK (K := K)) (pv 4) (pe_slice (sl_tupK (K := K)) (pv 1) po_none (po_some (pv 3))) rfl) (pa_cons pe_str (pa_cons pe_int (pa_cons (pv 3) pa_nil))))))))
      (Evl.pss_cut (ps_for PassesOwn.never rfl (pi_range1 (by rfl) T.z_range (pa_cons (pe_callB (call_lenK (K := K)) (by rfl) T.z_len bt_len (pa_cons (pv 2) pa_nil)) pa_nil)) (pg_name (i := 5) sc_look.nd rfl (Or.inl rfl))
        (pss_one (ps_expr (pe_call G_look_part (hr.mono (by omega)) (by rfl) T.g_look_part T.F_look_part.kp T.b_look_part .nil pass0 (pa_cons (pv 0) (pa_cons (pv 5) pa_nil))))))
      (pss_one (ps_ret pe_bl)))))), ?_⟩
    refine ⟨.ref a, rfl, a, _, rfl, s0, rfl, _, _, rfl, _, [], rfl, rfl, ?_⟩
    refine ⟨.ref ap, rfl, ap, _, rfl, .inr sp, _, _, rfl, rfl, _, rfl, iteD (by rw [lxp]; omega) ⟨_, _, rfl, rfl, _, _, _, _, rfl, decide_eq_true (by rw [lxp]; omega), ?_⟩⟩
    refine ⟨fun σ H' => (∃ y3 y4, σ = [some (.ref a), some (.ref as), some (.ref ap), y3, y4, none]) ∧ Ex H H', ?_, ?_⟩
    · refine ⟨.ref as, rfl, as, _, rfl, ss, for_it (walk_enumT (K := K) (a := as) (xs := p.shared.map V.str)) (fun j σ H' => (∃ y3 y4, σ = [some (.ref a), some (.ref as), some (.ref ap), y3, y4, none]) ∧ Ex H H') ⟨⟨_, _, rfl⟩, Evl.Ex.refl _⟩ (fun j σ H' _ h => ex_T h.2 ss) (fun j x σ H' H'' hj h y => ?_) (fun σ H' h => h)⟩
      obtain ⟨⟨y3, y4, rfl⟩, x⟩ := h
      obtain ⟨t, x1, x2, rfl, nt, rfl, e1, e2⟩ := y
      cases e1
      have xt := Evl.Ex.new (o := .tup [.int (j : Nat), x2]) nt
      replace e2 : (p.shared.map V.str)[j]? = some x2 := e2
      rw [List.getElem?_map] at e2
      obtain ⟨z, ez, rfl⟩ := Option.map_eq_some_iff.mp e2
      have hjl := (List.getElem?_eq_some_iff.mp ez).1
      refine ⟨t, _, rfl, SqT.of upd_same, rfl, _, _, rfl, _, [], rfl, rfl, ?_⟩
      have xx := x.trans xt
      refine ⟨.str z, rfl, .ref as, rfl, .int (j : Nat), rfl, _, rfl, slA_by (ex_T xx ss) fun t2 H3 x3 st => ?_⟩
      rw [cut_takeV _ (by rw [List.length_map]; omega), ← List.map_take] at st
      refine ⟨t2, _, rfl, .inr st, rfl, flat_strs' _, .int (j : Nat), rfl, _, _, _, _, rfl, ?_, ⟨_, _, rfl⟩, xx.trans x3⟩
      show (!inV _ _) = true
      rw [not_in_take L.nd ez]
      rfl
    rintro σ H1 ⟨⟨y3, y4, rfl⟩, x1⟩
    refine ⟨fun σ H' => Ex H H', ?_, fun σ H' h => fin H' h⟩
    refine ⟨.ref ap, rfl, ap, _, rfl, .inr (ex_T x1 sp), _, rfl, by rw [lxp]; omega, by rw [lxp]; omega, for_range (fun j σ H' => (∃ y5, σ = [some (.ref a), some (.ref as), some (.ref ap), y3, y4, y5]) ∧ Ex H H') ⟨⟨_, rfl⟩, x1⟩ (fun j σ H' hj h => ?_) (fun σ H' h => h.2)⟩
    obtain ⟨⟨y5, rfl⟩, x⟩ := h
    exact ⟨.ref a, rfl, .int (0 + (j : Int)), rfl, _, p, j, by rw [Int.zero_add]; rfl, dv.ex x, L, by omega, fun H4 x4 => ⟨⟨_, rfl⟩, x.trans x4⟩⟩

/-! ### programs called otherwise -/
theorem ok_renamed {k : Nat} (T : Txt K mg) : FnOk P w K mg base CX0 (k + 2) T.f__law_renamed T.fd__law_renamed ["_law_deal_here", "_law_program_here"] (sp_renamed K) := by
  have G__law_draw : FnOk P w K mg base CX0 1 T.f__law_draw T.fd__law_draw ["_law_deal_here", "_law_many"] sp_draw := ok_draw T
  refine T.F__law_renamed.ok sc__law_renamed (fun vs H Q E h => ?_) (fun cdv A outer s H vs Q E hr h => ?_)
  · obtain ⟨d, l, v, p, F, rfl, _⟩ := h
    rfl
  · obtain ⟨d, l, v, p, F, rfl, W, dv, O, fin⟩ := h
    obtain ⟨L, nn⟩ := O.look (by decide) (by decide) (by decide)
    have l1 := L.p1
    have l3 := L.p3
    obtain ⟨a, as, ap, xp, rfl, s0, ss, sp, dxp, lxp⟩ := dp_prog dv
    have lsn : p.shared.length ≤ 3 := by
      have h1 := (L.part _ (List.getElem_mem l1)).2.1
      omega
    refine ⟨_, (pss_cons (ps_asg (pv 1) (pg_tupK (K := K) rfl (pgs_cons (pg_name (i := 2) sc__law_renamed.nd rfl (Or.inl rfl)) (pgs_cons (pg_name (i := 3) sc__law_renamed.nd rfl (Or.inl rfl)) pgs_nil))))
      (pss_cons (ps_set (i := 4) sc__law_renamed.nd rfl (Or.inl rfl) (pe_call G__law_draw (hr.mono (by omega)) (by rfl) T.g__law_draw T.F__law_draw.kp T.b__law_draw .nil pass0 (pa_cons (pv 0) (pa_cons pe_int pa_nil))))
      (Evl.pss_cut (ps_setLc (i := 5) (own := [("_law_name", 6), ("_law_own", 7), ("_law_rows", 8)]) (g := gTup K 3 (gCons (gName 6) (gCons (gName 7) (gCons (gName 8) gNil)))) (tt := tYes) rfl sc__law_renamed.nd rfl rfl (sw_true rfl rfl rfl (by decide +kernel)) (pi_tupK (K := K) (pv 3)) (blkOk_by (own := [("_law_name", 6), ("_law_own", 7), ("_law_rows", 8)]) (N := nm__law_renamed) (sc := defScope st__law_renamed) (by decide +kernel)) (fun _ _ _ _ _ => (pg_tupK (K := K) rfl (pgs_cons (pg_name (i := 6) sc__law_renamed.nd rfl (Or.inl rfl)) (pgs_cons (pg_name (i := 7) sc__law_renamed.nd rfl (Or.inl rfl)) (pgs_cons (pg_name (i := 8) sc__law_renamed.nd rfl (Or.inl rfl)) pgs_nil))))) (fun _ _ _ _ _ => pts_nil) (fun _ _ _ _ _ => (pv 6)))
      (pss_cons (ps_if (pt_cmpR op_eq (pv 4) pe_int (nomark _)) (Evl.pss_cut (ps_set (i := 9) sc__law_renamed.nd rfl (Or.inr rfl) (pe_op op_cat (pe_callTy (call_listK (K := K)) (by rfl) T.z_list bt_list (pa_cons (pv 2) pa_nil)) (pv 5)))
        (pss_one (ps_ret (pe_tup (pa_cons (pv 2) (pa_cons (pe_callTy (call_tupleK (K := K)) (by rfl) T.z_tuple bt_tuple (pa_cons (pe_lc (own := [("_law_k", 10), ("_law_name", 6), ("_law_own", 7), ("_law_rows", 8)]) (g := gTup K 2 (gCons (gName 10) (gCons (gTup K 3 (gCons (gName 6) (gCons (gName 7) (gCons (gName 8) gNil)))) gNil))) (tt := tYes) rfl sc__law_renamed.nd (pi_enumT (K := K) (by rfl) T.z_enumerate (pa_cons (pv 3) pa_nil)) (blkOk_by (own := [("_law_k", 10), ("_law_name", 6), ("_law_own", 7), ("_law_rows", 8)]) (N := nm__law_renamed) (sc := defScope st__law_renamed) (by decide +kernel)) (fun _ _ _ _ _ => (pg_tupK (K := K) rfl (pgs_cons (pg_name (i := 10) sc__law_renamed.nd rfl (Or.inl rfl)) (pgs_cons (pg_tupK (K := K) rfl (pgs_cons (pg_name (i := 6) sc__law_renamed.nd rfl (Or.inl rfl)) (pgs_cons (pg_name (i := 7) sc__law_renamed.nd rfl (Or.inl rfl)) (pgs_cons (pg_name (i := 8) sc__law_renamed.nd rfl (Or.inl rfl)) pgs_nil)))) pgs_nil)))) (fun _ _ _ _ _ => pts_nil) (fun _ _ _ _ _ => (pe_tup (pa_cons (pe_ix (ix_listK (K := K)) (pv 9) (pv 10) (fun _ _ => rfl)) (pa_cons (pv 7) (pa_cons (pv 8) pa_nil)))))) pa_nil)) pa_nil)))))) pss_nil)
      (pss_cons (ps_set (i := 11) sc__law_renamed.nd rfl (Or.inl rfl) (pe_lst pa_nil))
      (Evl.pss_cut (ps_for PassesOwn.never rfl (pi_tupK (K := K) (pv 3)) (pg_tupK (K := K) rfl (pgs_cons (pg_name (i := 6) sc__law_renamed.nd rfl (Or.inl rfl)) (pgs_cons (pg_name (i := 7) sc__law_renamed.nd rfl (Or.inl rfl)) (pgs_cons (pg_name (i := 8) sc__law_renamed.nd rfl (Or.inl rfl)) pgs_nil))))
        (pss_cons (ps_set (i := 12) sc__law_renamed.nd rfl (Or.inl rfl) (pv 7))
        (Evl.pss_cut (ps_if (PW.pt (pw_and (pt_cmpR op_eq (pv 4) pe_int (nomark _)) (pw_and1 (pt_cmpR op_le (pe_callB (call_lenK (K := K)) (by rfl) T.z_len bt_len (pa_cons (pv 7) pa_nil)) (pe_callB (call_lenK (K := K)) (by rfl) T.z_len bt_len (pa_cons (pv 3) pa_nil)) (nomark _))))) (pss_one (ps_set (i := 12) sc__law_renamed.nd rfl (Or.inl rfl) (pe_callTy (call_tupleK (K := K)) (by rfl) T.z_tuple bt_tuple (pa_cons (pe_slice (sl_listK (K := K)) (pv 5) po_none (po_some (pe_callB (call_lenK (K := K)) (by rfl) T.z_len bt_len (pa_cons (pv 7) pa_nil)))) pa_nil)))) pss_nil)
        (Evl.pss_cut (ps_if (pt_cmpR op_eq (pv 4) pe_int (nomark _)) (pss_cons (ps_set (i := 12) sc__law_renamed.nd rfl (Or.inl rfl) (pe_callTy (call_tupleK (K := K)) (by rfl) T.z_tuple bt_tuple (pa_cons (pe_slice (sl_listK (K := K)) (pe_lst (pa_cons (pe_ix (ix_listK (K := K)) (pv 5) pe_int (fun _ _ => rfl)) (pa_cons pe_str pa_nil))) po_none (po_some (pe_callB (call_lenK (K := K)) (by rfl) T.z_len bt_len (pa_cons (pv 7) pa_nil)))) pa_nil)))
          (pss_one (ps_if (PW.pt (pw_or (pt_cmpR op_eq (pe_ix (ix_listK (K := K)) (pv 5) pe_int (fun _ _ => rfl)) pe_str (nomark _)) (pw_or (pt_cmpR (op_inK (K := K)) (pe_ix (ix_listK (K := K)) (pv 5) pe_int (fun _ _ => rfl)) (pv 2) rfl) (pw_or1 (pt_cmpR (op_inK (K := K)) pe_str (pv 2) rfl))))) (pss_one (ps_set (i := 12) sc__law_renamed.nd rfl (Or.inl rfl) (pv 7))) pss_nil))) pss_nil)
        (pss_one (ps_expr (pe_bmK (K := K) PySem.F.plainAttrs_list PySem.F.slot_list_append PySem.F.type_list_append mt_append (pv 11) (pa_cons (pe_tup (pa_cons (pv 6) (pa_cons (pv 12) (pa_cons (pv 8) pa_nil)))) pa_nil))))))))
      (pss_one (ps_ret (pe_tup (pa_cons (pv 2) (pa_cons (pe_callTy (call_tupleK (K := K)) (by rfl) T.z_tuple bt_tuple (pa_cons (pv 11) pa_nil)) pa_nil))))))))))), ?_⟩
    refine ⟨.ref a, rfl, a, _, rfl, ex_T W.sub s0, rfl, _, _, rfl, _, [], rfl, rfl, ?_⟩
    refine ⟨.ref d, rfl, d, l, 3, rfl, W.deal, by decide, by decide, fun form H1 f0 f1 D1 k1 => ?_⟩
    have g1 := (Go.refl W).draw D1 k1
    refine ⟨fun σ H' => ∃ D : Addr, σ = [some (.ref d), some (.ref a), some (.ref as), some (.ref ap), some (.int form), some (.ref D), none, none, none, none, none, none, none] ∧ Go d l F H F H' ∧ Own d l F H' D (.lst ((p.parts.map Part.name).map V.str)), ?_, ?_⟩
    · refine ⟨.ref ap, rfl, ap, rfl, ⟨_, ex_T g1.ex sp⟩, fun D nD => ?_⟩
      have nDH := g1.none W nD
      refine lc_it (walk_tup (K := K) (a := ap) (xs := xp)) (fun j H' => Go d l F H F H' ∧ Own d l F H' D (.lst (((p.parts.take j).map Part.name).map V.str))) ⟨g1.newm nD, Own.new g1.w nD⟩ (fun j H' _ h => ex_T h.1.ex sp) (fun j x H' H'' hj h y => ?_) (fun H2 h => ?_)
      · obtain ⟨ga, ma⟩ := h
        obtain ⟨rfl, hx⟩ := y
        obtain ⟨q, eq, dq⟩ := dp_at' dxp hx
        obtain ⟨aq, ao, ar, xr, rfl, sq, _⟩ := dp_part dq
        refine ⟨aq, _, rfl, ex_T ga.ex sq, rfl, _, _, rfl, _, _, rfl, _, [], rfl, rfl, rfl, .str q.name, rfl, _, ma.h, ?_, ga.mut nDH ma, ?_⟩
        · rw [List.length_map, List.length_map, List.length_take]
          exact small1000 (by omega)
        · rw [List.take_add_one, eq, List.map_append, List.map_append]
          exact ma.put
      · obtain ⟨g2, m2⟩ := h
        rw [lxp, List.take_length] at m2
        exact ⟨D, rfl, g2, m2⟩
    rintro σ H2 ⟨D, rfl, g2, m2⟩
    have lsp : (p.parts.map Part.name).length = p.parts.length := List.length_map ..
    have hspn : (p.parts.map Part.name).Nodup := L.names
    generalize hspare : p.parts.map Part.name = spare at m2 nn lsp hspn
    have spat : ∀ {j : Nat} {q : Part}, p.parts[j]? = some q → spare[j]? = some q.name := fun e => by rw [← hspare, List.getElem?_map, e]; rfl
    refine ⟨.int form, rfl, rfl, _, rfl, ite2 (fun e0 => ?_) (fun e0 => ?_)⟩
    · -- parts called like boxes
      refine ⟨fun σ H' => ∃ pn : Addr, σ = [some (.ref d), some (.ref a), some (.ref as), some (.ref ap), some (.int form), some (.ref D), none, none, none, some (.ref pn), none, none, none] ∧ Go d l F H F H' ∧ Own d l F H' pn (.lst ((p.shared ++ spare).map V.str)), ?_, ?_⟩
      · refine ⟨.ref as, rfl, as, _, rfl, .inr (ex_T g2.ex ss), fun pl npl => ⟨.ref D, rfl, ?_⟩⟩
        have g3 := g2.newm (o := .lst (p.shared.map V.str)) npl
        have m3 := m2.freshm (u := .lst (p.shared.map V.str)) npl
        have ml3 := Own.new (o := .lst (p.shared.map V.str)) g2.w npl
        refine ⟨pl, D, _, _, rfl, rfl, ml3.h, m3.h, Nat.le_of_lt (small1000 (by rw [List.length_map, List.length_map]; omega)), fun pn npn => ?_⟩
        rw [← List.map_append]
        have g4 := g3.newm (o := .lst ((p.shared ++ spare).map V.str)) npn
        have mn4 := Own.new (o := .lst ((p.shared ++ spare).map V.str)) g3.w npn
        exact ⟨pn, rfl, g4, mn4⟩
      rintro σ H4 ⟨pn, rfl, g4, mn4⟩
      refine ⟨.ref as, rfl, .ref ap, rfl, ap, _, rfl, ex_T g4.ex sp, fun D2 nD2 => ?_⟩
      have nD2H := g4.none W nD2
      have ne2 := mn4.ne nD2
      refine lc_it (walk_enumT (K := K) (a := ap) (xs := xp)) (fun j H' => ∃ (F' : Hp) (xs : List V) (ps : List Part), Go d l F H F' H' ∧ Own d l F' H' pn (.lst ((p.shared ++ spare).map V.str)) ∧ Own d l F' H' D2 (.lst xs) ∧ DpAll K F' xs (ps.map dPart) ∧ ps.length = j ∧ Lk p (p.shared ++ spare) ps) ⟨F, [], [], g4.newm nD2, mn4.freshm nD2, Own.new g4.w nD2, .nil, rfl, fun k q e => by simp at e⟩ (fun j H' _ h => by obtain ⟨F', _, _, g, _⟩ := h; exact ex_T g.ex sp) (fun j x H' H'' hj h y => ?_) (fun H5 h => ?_)
      · obtain ⟨F5, xs, ps, ga, ma, mb, dx, lps, lk⟩ := h
        obtain ⟨t, x1, x2, rfl, nt, rfl, e1, e2⟩ := y
        cases e1
        replace e2 : xp[j]? = some x2 := e2
        obtain ⟨q, eq, dq⟩ := dp_at' dxp e2
        obtain ⟨aq, ao, ar, xr, rfl, sq, so, sr, dxr, lxr⟩ := dp_part dq
        have gb := ga.newm (o := .tup [.int (j : Nat), .ref aq]) nt
        have mab := ma.freshm (u := .tup [.int (j : Nat), .ref aq]) nt
        have mbb := mb.freshm (u := .tup [.int (j : Nat), .ref aq]) nt
        have hjl : j < (p.shared ++ spare).length := by rw [List.length_append]; omega
        have enm : (p.shared ++ spare)[j]? = some (p.shared ++ spare)[j] := List.getElem?_eq_getElem hjl
        refine ⟨t, _, rfl, SqT.of upd_same, rfl, _, _, rfl, _, [], rfl, aq, _, rfl, ex_T gb.ex sq, rfl, _, _, rfl, _, _, rfl, _, [], rfl, rfl, rfl, rfl, .ref pn, rfl, .int (j : Nat), rfl, pn, _, _, _, rfl, rfl, mab.L, atI_nat (by rw [List.getElem?_map, enm]; rfl), .ref ao, rfl, .ref ar, rfl, by show 3 ≤ sizeLine; decide, fun t2 nt2 => ?_⟩
        have gc := gb.new (o := .tup [.str (p.shared ++ spare)[j], .ref ao, .ref ar]) nt2
        have mac := mab.fresh (u := .tup [.str (p.shared ++ spare)[j], .ref ao, .ref ar]) nt2
        have mbc := mbb.fresh (u := .tup [.str (p.shared ++ spare)[j], .ref ao, .ref ar]) nt2
        have fx := Evl.Ex.new (o := .tup [.str (p.shared ++ spare)[j], .ref ao, .ref ar]) (sub_none gb.sub nt2)
        have hl : xs.length ≤ 1000 := by rw [dx.length, List.length_map, lps]; omega
        refine ⟨xs, mbc.h, small1000 hl, _, xs ++ [.ref t2], ps ++ [⟨(p.shared ++ spare)[j], q.own, q.rows⟩], gc.mut nD2H mbc, mac.other ne2, mbc.put, ?_, by rw [List.length_append, lps]; rfl, lk.snoc ⟨q, by rw [lps]; exact eq, rfl, rfl, (L.part q (List.mem_of_getElem? eq)).1, by rw [lps]; exact enm⟩⟩
        rw [List.map_append]
        exact (dx.ex fx).snoc (.tup (SqT.of upd_same) (.cons (.str _) (.cons (.tup (ex_T (gc.fz) so) (DpAll.strs _)) (.cons (.tup (ex_T gc.fz sr) (dxr.ex gc.fz)) .nil))))
      · obtain ⟨F5, xs, ps, ga, ma, mb, dx, lps, lk⟩ := h
        rw [lxp] at lps
        refine ⟨D2, xs, rfl, .inl ⟨mb.L, fun t nt => ⟨by show 2 ≤ sizeLine; decide, fun t2 nt2 => ?_⟩⟩⟩
        have gb := ga.new (o := .tup xs) nt
        have fx := Evl.Ex.new (o := .tup xs) (sub_none ga.sub nt)
        have gc := gb.new (o := .tup [.ref as, .ref t]) nt2
        have fx2 := Evl.Ex.new (o := .tup [.ref as, .ref t]) (sub_none gb.sub nt2)
        exact fin _ _ _ ⟨p.shared, ps⟩ gc (.tup (SqT.of upd_same) (.cons (.tup (ex_T gc.fz ss) (DpAll.strs _)) (.cons (Dp.ex fx2 (.tup (SqT.of upd_same) (dx.ex fx))) .nil))) (lk.look L nn lps)
    · -- own boxes called otherwise
      refine ⟨Nat.zero_le _, fun pf npf => ?_⟩
      have npfH := g2.none W npf
      have nef := m2.ne npf
      have g3 := g2.newm (o := .lst []) npf
      have m3 := m2.freshm (u := .lst []) npf
      have mf3 := Own.new (o := .lst []) g2.w npf
      generalize upd H2 pf (.lst []) = H3 at g3 m3 mf3 ⊢
      refine ⟨fun σ H' => ∃ (F' : Hp) (xs : List V) (ps : List Part) (y6 y7 y8 y12 : Option V), σ = [some (.ref d), some (.ref a), some (.ref as), some (.ref ap), some (.int form), some (.ref D), y6, y7, y8, none, none, some (.ref pf), y12] ∧ Go d l F H F' H' ∧ Own d l F' H' pf (.lst xs) ∧ DpAll K F' xs (ps.map dPart) ∧ ps.length = p.parts.length ∧ Lk p spare ps, ?_, ?_⟩
      · refine ⟨.ref ap, rfl, ap, rfl, ⟨_, ex_T g3.ex sp⟩, for_it (walk_tup (K := K) (a := ap) (xs := xp)) (fun j σ H' => ∃ (F' : Hp) (xs : List V) (ps : List Part) (y6 y7 y8 y12 : Option V), σ = [some (.ref d), some (.ref a), some (.ref as), some (.ref ap), some (.int form), some (.ref D), y6, y7, y8, none, none, some (.ref pf), y12] ∧ Go d l F H F' H' ∧ Own d l F' H' D (.lst (spare.map V.str)) ∧ Own d l F' H' pf (.lst xs) ∧ DpAll K F' xs (ps.map dPart) ∧ ps.length = j ∧ Lk p spare ps) ⟨F, [], [], _, _, _, _, rfl, g3, m3, mf3, .nil, rfl, fun k q e => by simp at e⟩ (fun j σ H' _ h => by obtain ⟨F', _, _, _, _, _, _, _, g, _⟩ := h; exact ex_T g.ex sp) (fun j x σ H' H'' hj h y => ?_) (fun σ H' h => ?_)⟩
        · obtain ⟨F5, xs, ps, y6, y7, y8, y12, rfl, ga, ma, mb, dx, lps, lk⟩ := h
          obtain ⟨rfl, hx⟩ := y
          obtain ⟨q, eq, dq⟩ := dp_at' dxp hx
          obtain ⟨aq, ao, ar, xr, rfl, sq, so, sr, dxr, lxr⟩ := dp_part dq
          obtain ⟨ndq, lq3, _⟩ := L.part q (List.mem_of_getElem? eq)
          refine ⟨aq, _, rfl, ex_T ga.ex sq, rfl, _, _, rfl, _, _, rfl, _, [], rfl, rfl, ?_⟩
          refine ⟨.ref ao, rfl, ?_⟩
          -- the new names: a tuple t of names
          have same : ∀ {F' H' : Hp}, Go d l F H F' H' → ∃ (t : Addr) (ow : List Str), V.ref ao = V.ref t ∧ SqT K F' t (ow.map V.str) ∧ ow.length = q.own.length ∧ (p.shared ++ ow).Nodup := fun g => ⟨ao, q.own, rfl, ex_T g.fz so, rfl, ndq⟩
          refine ⟨fun σ H' => ∃ (F' : Hp) (t : Addr) (ow : List Str), σ = [some (.ref d), some (.ref a), some (.ref as), some (.ref ap), some (.int form), some (.ref D), some (.str q.name), some (.ref ao), some (.ref ar), none, none, some (.ref pf), some (.ref t)] ∧ Go d l F5 H'' F' H' ∧ SqT K F' t (ow.map V.str) ∧ ow.length = q.own.length ∧ (p.shared ++ ow).Nodup, ?_, ?_⟩
          · refine ⟨.int form, rfl, rfl, _, rfl, ite2 (fun e1 => ?_) (fun e1 => ⟨F5, ao, q.own, rfl, Go.refl ga.w, ex_T ga.fz so, rfl, ndq⟩)⟩
            refine ⟨.ref ao, rfl, ao, _, rfl, .inr (ex_T ga.ex so), .ref ap, rfl, ap, _, rfl, .inr (ex_T ga.ex sp), _, _, rfl, rfl, _, rfl, ite2 (fun e2 => ?_) (fun e1 => ⟨F5, ao, q.own, rfl, Go.refl ga.w, ex_T ga.fz so, rfl, ndq⟩)⟩
            have hle : q.own.length ≤ spare.length := by
              have := of_decide_eq_true e2
              rw [List.length_map, lxp] at this
              omega
            refine ⟨.ref D, rfl, .ref ao, rfl, ao, _, rfl, .inr (ex_T ga.ex so), _, rfl, D, _, rfl, ma.L, fun ps nps => ?_⟩
            rw [List.length_map, cut_takeV _ (by rw [List.length_map]; exact hle), ← List.map_take]
            refine ⟨ps, _, rfl, .inl ⟨SqL.of upd_same, fun t nt => ?_⟩⟩
            have gb := ((Go.refl ga.w).newm (o := .lst ((spare.take q.own.length).map V.str)) nps).new (o := .tup ((spare.take q.own.length).map V.str)) nt
            refine ⟨_, t, spare.take q.own.length, rfl, gb, SqT.of upd_same, by rw [List.length_take]; omega, ?_⟩
            exact nn.sublist ((List.Sublist.refl _).append (List.take_sublist _ _))
          rintro σ H6 ⟨F6, t, ow, rfl, g6, st, low, ndo⟩
          have m6 := ma.go g6
          have mb6 := mb.go g6
          have so6 : SqT K F6 ao (q.own.map V.str) := ex_T (ga.trans g6).fz so
          refine ⟨fun σ H' => ∃ (F' : Hp) (t : Addr) (ow : List Str), σ = [some (.ref d), some (.ref a), some (.ref as), some (.ref ap), some (.int form), some (.ref D), some (.str q.name), some (.ref ao), some (.ref ar), none, none, some (.ref pf), some (.ref t)] ∧ Go d l F6 H6 F' H' ∧ SqT K F' t (ow.map V.str) ∧ ow.length = q.own.length ∧ (p.shared ++ ow).Nodup, ?_, ?_⟩
          · refine ⟨.int form, rfl, rfl, _, rfl, ite2 (fun e1 => ?_) (fun e1 => ⟨F6, t, ow, rfl, Go.refl g6.w, st, low, ndo⟩)⟩
            have hs0 : 0 < spare.length := by omega
            have es0 : spare[0]? = some spare[0] := List.getElem?_eq_getElem hs0
            have at0 : atI (spare.map V.str) 0 = some (.str spare[0]) := atI_nat (j := 0) (by rw [List.getElem?_map, es0]; rfl)
            generalize spare[0] = z0 at es0 at0
            refine ⟨.ref D, rfl, D, _, 0, _, rfl, rfl, m6.L, at0, by show 2 ≤ sizeLine; decide, fun ps nps => ⟨.ref ao, rfl, ao, _, rfl, .inr (ex_T ((Go.refl g6.w).newm nps).ex so6), _, rfl, ps, _, rfl, SqL.of upd_same, fun pc npc => ?_⟩⟩
            have low2 : q.own.length ≤ 2 := by
              obtain ⟨ws, _, _, _, sh, _, _, _, _, parts⟩ := O
              obtain ⟨_, ol, o2, eo, _⟩ := parts j q eq
              rw [eo, List.length_take]
              omega
            have ecut : cutV [V.str z0, V.str "zyx"] none (some (((q.own.map V.str).length : Nat) : Int)) = (([z0, "zyx"] : List Str).take q.own.length).map V.str := by
              rw [List.length_map, cut_takeV _ (by show q.own.length ≤ 2; exact low2), List.map_take]
              rfl
            rw [ecut]
            have gb := ((Go.refl g6.w).newm (o := .lst [V.str z0, V.str "zyx"]) nps).newm (o := .lst ((([z0, "zyx"] : List Str).take q.own.length).map V.str)) npc
            have mb6' := (m6.freshm (u := .lst [V.str z0, V.str "zyx"]) nps).freshm (u := .lst ((([z0, "zyx"] : List Str).take q.own.length).map V.str)) npc
            have hpc : (upd (upd H6 ps (.lst [V.str z0, V.str "zyx"])) pc (.lst ((([z0, "zyx"] : List Str).take q.own.length).map V.str))) pc = some (.lst ((([z0, "zyx"] : List Str).take q.own.length).map V.str)) := upd_same
            generalize upd (upd H6 ps (.lst [V.str z0, V.str "zyx"])) pc (.lst ((([z0, "zyx"] : List Str).take q.own.length).map V.str)) = H7 at gb mb6' hpc ⊢
            refine ⟨pc, _, rfl, .inl ⟨SqL.of hpc, fun t nt => ?_⟩⟩
            have gc := gb.new (o := .tup ((([z0, "zyx"] : List Str).take q.own.length).map V.str)) nt
            have mc := mb6'.fresh (u := .tup ((([z0, "zyx"] : List Str).take q.own.length).map V.str)) nt
            have st2 : SqT K (upd F6 t (.tup ((([z0, "zyx"] : List Str).take q.own.length).map V.str))) t ((([z0, "zyx"] : List Str).take q.own.length).map V.str) := SqT.of upd_same
            have soc := ex_T gc.fz so6
            generalize upd F6 t (.tup ((([z0, "zyx"] : List Str).take q.own.length).map V.str)) = F7 at gc mc st2 soc
            generalize upd H7 t (.tup ((([z0, "zyx"] : List Str).take q.own.length).map V.str)) = H8 at gc mc ⊢
            have back : ∃ (F' : Hp) (t : Addr) (ow : List Str), ([some (.ref d), some (.ref a), some (.ref as), some (.ref ap), some (.int form), some (.ref D), some (.str q.name), some (.ref ao), some (.ref ar), none, none, some (.ref pf), some (.ref ao)] : List (Option V)) = [some (.ref d), some (.ref a), some (.ref as), some (.ref ap), some (.int form), some (.ref D), some (.str q.name), some (.ref ao), some (.ref ar), none, none, some (.ref pf), some (.ref t)] ∧ Go d l F6 H6 F' H8 ∧ SqT K F' t (ow.map V.str) ∧ ow.length = q.own.length ∧ (p.shared ++ ow).Nodup := ⟨F7, ao, q.own, rfl, gc, soc, rfl, ndq⟩
            have ss8 : SqT K H8 as (p.shared.map V.str) := ex_T ((ga.trans g6).trans gc).ex ss
            refine ⟨.ref D, rfl, D, _, 0, _, rfl, rfl, mc.L, at0, rfl, _, rfl, ite2 (fun e2 => iteT ⟨.ref ao, rfl, back⟩) (fun e2 => ?_)⟩
            refine ⟨.ref D, rfl, D, _, 0, _, rfl, rfl, mc.L, at0, .ref as, rfl, as, _, rfl, .inr ss8, rfl, flat_strs' _, _, rfl, ite2 (fun e3 => iteT ⟨.ref ao, rfl, back⟩) (fun e3 => ?_)⟩
            refine ⟨.ref as, rfl, as, _, rfl, .inr ss8, rfl, flat_strs' _, _, rfl, ite2 (fun e4 => ⟨.ref ao, rfl, back⟩) (fun e4 => ⟨F7, t, _, rfl, gc, st2, by rw [List.length_take]; show min _ 2 = _; omega, ?_⟩)⟩
            have h2 : ¬ z0 = "zyx" := fun h => e2 (decide_eq_true (by rw [h]))
            have h3 : z0 ∉ p.shared := fun h => e3 (by
              show inV _ _ = true
              rw [in_strs]
              exact decide_eq_true h)
            have h4 : ("zyx" : Str) ∉ p.shared := fun h => e4 (by
              show inV _ _ = true
              rw [in_strs]
              exact decide_eq_true h)
            have h5 : (p.shared ++ ([z0, "zyx"] : List Str)).Nodup := by
              rw [List.nodup_append]
              refine ⟨L.nd, ?_, fun x hx y hy e => ?_⟩
              · rw [List.nodup_cons]
                exact ⟨fun h => h2 (List.mem_singleton.mp h), by simp⟩
              · subst e
                rcases List.mem_cons.mp hy with h | h
                · exact h3 (h ▸ hx)
                · exact h4 ((List.mem_singleton.mp h) ▸ hx)
            exact h5.sublist ((List.Sublist.refl _).append (List.take_sublist _ _))
          rintro σ H7 ⟨F7, t, ow, rfl, g7, st, low, ndo⟩
          have m7 := m6.go g7
          have mb7 := mb6.go g7
          have gf := (ga.trans g6).trans g7
          refine ⟨.ref pf, rfl, .inl ⟨rfl, _, mb7.L⟩, .str q.name, rfl, .ref t, rfl, .ref ar, rfl, by show 3 ≤ sizeLine; decide, fun t2 nt2 => ?_⟩
          have g8 := gf.new (o := .tup [.str q.name, .ref t, .ref ar]) nt2
          have m8 := m7.fresh (u := .tup [.str q.name, .ref t, .ref ar]) nt2
          have mb8 := mb7.fresh (u := .tup [.str q.name, .ref t, .ref ar]) nt2
          have fx := Evl.Ex.new (o := .tup [.str q.name, .ref t, .ref ar]) (sub_none g7.sub nt2)
          have hl : xs.length ≤ 1000 := by rw [dx.length, List.length_map, lps]; omega
          refine ⟨pf, xs, _, rfl, rfl, mb8.h, small1000 hl, _, xs ++ [.ref t2], ps ++ [⟨q.name, ow, q.rows⟩], _, _, _, _, rfl, g8.mut npfH mb8, m8.other nef, mb8.put, ?_, by rw [List.length_append, lps]; rfl, lk.snoc ⟨q, by rw [lps]; exact eq, rfl, low, ndo, by rw [lps]; exact (spat eq : spare[j]? = some q.name)⟩⟩
          rw [List.map_append]
          exact (dx.ex ((g6.fz.trans g7.fz).trans fx)).snoc (.tup (SqT.of upd_same) (.cons (.str _) (.cons (.tup (ex_T fx st) (DpAll.strs _)) (.cons (.tup (ex_T g8.fz sr) (dxr.ex g8.fz)) .nil))))
        · obtain ⟨F5, xs, ps, y6, y7, y8, y12, rfl, ga, ma, mb, dx, lps, lk⟩ := h
          exact ⟨F5, xs, ps, _, _, _, _, rfl, ga, mb, dx, by rw [lps, lxp], lk⟩
      · rintro σ H5 ⟨F5, xs, ps, y6, y7, y8, y12, rfl, ga, mb, dx, lps, lk⟩
        refine ⟨.ref as, rfl, .ref pf, rfl, pf, xs, rfl, .inl ⟨mb.L, fun t nt => ⟨by show 2 ≤ sizeLine; decide, fun t2 nt2 => ?_⟩⟩⟩
        have gb := ga.new (o := .tup xs) nt
        have fx := Evl.Ex.new (o := .tup xs) (sub_none ga.sub nt)
        have gc := gb.new (o := .tup [.ref as, .ref t]) nt2
        have fx2 := Evl.Ex.new (o := .tup [.ref as, .ref t]) (sub_none gb.sub nt2)
        exact fin _ _ _ ⟨p.shared, ps⟩ gc (.tup (SqT.of upd_same) (.cons (.tup (ex_T gc.fz ss) (DpAll.strs _)) (.cons (Dp.ex fx2 (.tup (SqT.of upd_same) (dx.ex fx))) .nil))) (lk.look L hspn lps)

/-! ### programs at the bounds -/
theorem seqIx {r : Int} {n : Nat} (h0 : 0 ≤ r) (h1 : r < n) : seqIndex? r n = some r.toNat := by
  have h2 : ¬ r < 0 := by omega
  unfold seqIndex?
  simp only [if_neg h2]
  rw [if_pos]
  rw [Bool.and_eq_true, decide_eq_true_eq, decide_eq_true_eq]
  exact ⟨h0, h1⟩
theorem erase_pw {ns : List Int} {j : Nat} (h : ns.Pairwise (· < ·)) : (ns.eraseIdx j).Pairwise (· < ·) := h.sublist (List.eraseIdx_sublist _ _)
theorem ok_bounds {k : Nat} (T : Txt K mg) : FnOk P w K mg base CX0 (k + 3) T.f__law_at_bounds T.fd__law_at_bounds ["_law_deal_here"] (sp_bounds K) := by
  have G__law_draw : FnOk P w K mg base CX0 1 T.f__law_draw T.fd__law_draw ["_law_deal_here", "_law_many"] sp_draw := ok_draw T
  have G__law_words : FnOk P w K mg base CX0 2 T.f__law_words T.fd__law_words ["_law_deal_here", "_law_many"] sp_words := ok_words T
  refine T.F__law_at_bounds.ok sc__law_at_bounds (fun vs H Q E h => ?_) (fun cdv A outer s H vs Q E hr h => ?_)
  · obtain ⟨d, l, F, rfl, _⟩ := h
    rfl
  · obtain ⟨d, l, F, rfl, W, fin⟩ := h
    refine ⟨_, (pss_cons (ps_set (i := 1) sc__law_at_bounds.nd rfl (Or.inl rfl) (pe_call G__law_words (hr.mono (by omega)) (by rfl) T.g__law_words T.F__law_words.kp T.b__law_words .nil pass0 (pa_cons (pv 0) (pa_cons pe_int pa_nil))))
      (Evl.pss_cut (ps_set (i := 2) sc__law_at_bounds.nd rfl (Or.inl rfl) (pe_callTy (call_tupleK (K := K)) (by rfl) T.z_tuple bt_tuple (pa_cons (pe_slice (sl_listK (K := K)) (pv 1) po_none (po_some (pe_call G__law_draw (hr.mono (by omega)) (by rfl) T.g__law_draw T.F__law_draw.kp T.b__law_draw .nil pass0 (pa_cons (pv 0) (pa_cons pe_int pa_nil))))) pa_nil)))
      (pss_cons (ps_set (i := 3) sc__law_at_bounds.nd rfl (Or.inl rfl) (pe_lst pa_nil))
      (Evl.pss_cut (ps_for PassesOwn.never rfl (pi_range1 (by rfl) T.z_range (pa_cons pe_int pa_nil)) (pg_name (i := 4) sc__law_at_bounds.nd rfl (Or.inl rfl))
        (Evl.pss_cut (ps_set (i := 5) sc__law_at_bounds.nd rfl (Or.inl rfl) (pe_callTy (call_tupleK (K := K)) (by rfl) T.z_tuple bt_tuple (pa_cons (pe_slice (sl_listK (K := K)) (pv 1) (po_some pe_int) (po_some (pe_op op_sub pe_int (pe_callB (call_lenK (K := K)) (by rfl) T.z_len bt_len (pa_cons (pv 2) pa_nil))))) pa_nil)))
        (pss_cons (ps_set (i := 6) sc__law_at_bounds.nd rfl (Or.inl rfl) (pe_lst pa_nil))
        (Evl.pss_cut (ps_for PassesOwn.never rfl (pi_range1 (by rfl) T.z_range (pa_cons pe_int pa_nil)) (pg_name (i := 7) sc__law_at_bounds.nd rfl (Or.inl rfl))
          (Evl.pss_cut (ps_set (i := 8) sc__law_at_bounds.nd rfl (Or.inl rfl) (pe_callTy (call_tupleK (K := K)) (by rfl) T.z_tuple bt_tuple (pa_cons (pe_lc (own := [("_law_b", 9)]) (g := gName 9) (tt := tYes) rfl sc__law_at_bounds.nd (pi_range1 (by rfl) T.z_range (pa_cons pe_int pa_nil)) (blkOk_by (own := [("_law_b", 9)]) (N := nm__law_at_bounds) (sc := defScope st__law_at_bounds) (by decide +kernel)) (fun _ _ _ _ _ => (pg_name (i := 9) sc__law_at_bounds.nd rfl (Or.inl rfl))) (fun _ _ _ _ _ => pts_nil) (fun _ _ _ _ _ => (pe_ix (ix_listK (K := K)) (pe_lst (pa_cons pe_int (pa_cons (pe_op op_sub pe_int pe_int) (pa_cons (pe_op op_sub (pe_call G__law_draw (hr.mono (by omega)) (by rfl) T.g__law_draw T.F__law_draw.kp T.b__law_draw .nil pass0 (pa_cons (pv 0) (pa_cons pe_int pa_nil))) pe_int) pa_nil)))) (pe_call G__law_draw (hr.mono (by omega)) (by rfl) T.g__law_draw T.F__law_draw.kp T.b__law_draw .nil pass0 (pa_cons (pv 0) (pa_cons pe_int pa_nil))) (fun _ _ => rfl)))) pa_nil)))
          (Evl.pss_cut (ps_set (i := 10) sc__law_at_bounds.nd rfl (Or.inl rfl) (pe_lst (pa_cons (pe_tup (pa_cons pe_str (pa_cons (pe_call G__law_draw (hr.mono (by omega)) (by rfl) T.g__law_draw T.F__law_draw.kp T.b__law_draw .nil pass0 (pa_cons (pv 0) (pa_cons pe_int pa_nil))) (pa_cons (pv 8) pa_nil)))) (pa_cons (pe_tup (pa_cons pe_str (pa_cons pe_int pa_nil))) (pa_cons (pe_tup (pa_cons pe_str (pa_cons (pe_call G__law_draw (hr.mono (by omega)) (by rfl) T.g__law_draw T.F__law_draw.kp T.b__law_draw .nil pass0 (pa_cons (pv 0) (pa_cons pe_int pa_nil))) pa_nil))) (pa_cons (pe_tup (pa_cons pe_str pa_nil)) pa_nil))))))
          (pss_cons (ps_set (i := 11) sc__law_at_bounds.nd rfl (Or.inr rfl) (pe_call G__law_draw (hr.mono (by omega)) (by rfl) T.g__law_draw T.F__law_draw.kp T.b__law_draw .nil pass0 (pa_cons (pv 0) (pa_cons pe_int pa_nil))))
          (Evl.pss_cut (ps_setLc (i := 12) (own := [("_law_going", 13)]) (g := gName 13) rfl sc__law_at_bounds.nd rfl rfl (sw_true rfl rfl rfl (by decide +kernel)) (pi_range1 (by rfl) T.z_range (pa_cons pe_int pa_nil)) (blkOk_by (own := [("_law_going", 13)]) (N := nm__law_at_bounds) (sc := defScope st__law_at_bounds) (by decide +kernel)) (fun _ _ _ _ _ => (pg_name (i := 13) sc__law_at_bounds.nd rfl (Or.inl rfl))) (fun _ _ _ _ _ => (pts_one (pt_cmpR op_ne (pv 13) (pv 11) (nomark _)))) (fun _ _ _ _ _ => (pv 13)))
          (pss_cons (ps_expr (pe_bmK (K := K) PySem.F.plainAttrs_list PySem.F.slot_list_pop PySem.F.type_list_pop mt_popAt (pv 12) (pa_cons (pe_call G__law_draw (hr.mono (by omega)) (by rfl) T.g__law_draw T.F__law_draw.kp T.b__law_draw .nil pass0 (pa_cons (pv 0) (pa_cons pe_int pa_nil))) pa_nil)))
          (pss_one (ps_expr (pe_bmK (K := K) PySem.F.plainAttrs_list PySem.F.slot_list_append PySem.F.type_list_append mt_append (pv 6) (pa_cons (pe_tup (pa_cons (pe_ix (ix_listK (K := K)) (pv 10) (pe_call G__law_draw (hr.mono (by omega)) (by rfl) T.g__law_draw T.F__law_draw.kp T.b__law_draw .nil pass0 (pa_cons (pv 0) (pa_cons pe_int pa_nil))) (fun _ _ => rfl)) (pa_cons (pe_callTy (call_tupleK (K := K)) (by rfl) T.z_tuple bt_tuple (pa_cons (pe_slice (sl_listK (K := K)) (pv 12) po_none (po_some pe_int)) pa_nil)) pa_nil))) pa_nil))))))))))
        (pss_one (ps_expr (pe_bmK (K := K) PySem.F.plainAttrs_list PySem.F.slot_list_append PySem.F.type_list_append mt_append (pv 3) (pa_cons (pe_tup (pa_cons (pe_ix (ix_listK (K := K)) (pv 1) (pe_op op_add pe_int (pv 4)) (fun _ _ => rfl)) (pa_cons (pv 5) (pa_cons (pe_callTy (call_tupleK (K := K)) (by rfl) T.z_tuple bt_tuple (pa_cons (pv 6) pa_nil)) pa_nil)))) pa_nil))))))))
      (pss_one (ps_ret (pe_tup (pa_cons (pv 2) (pa_cons (pe_callTy (call_tupleK (K := K)) (by rfl) T.z_tuple bt_tuple (pa_cons (pv 3) pa_nil)) pa_nil))))))))), ?_⟩
    refine ⟨.ref d, rfl, d, l, 9, F, rfl, W, by decide, fun pw ws H1 npw g1 mw1 lw ndw hw => ?_⟩
    refine ⟨fun σ H' => ∃ (F' : Hp) (as : Addr) (sh : Nat), σ = [some (.ref d), some (.ref pw), some (.ref as), none, none, none, none, none, none, none, none, none, none, none] ∧ Go d l F H F' H' ∧ Own d l F' H' pw (.lst (ws.map V.str)) ∧ SqT K F' as ((ws.take sh).map V.str) ∧ sh ≤ 3, ?_, ?_⟩
    · refine ⟨.ref pw, rfl, .ref d, rfl, d, l, 4, rfl, g1.deal, by decide, by decide, fun r H2 r0 r1 D2 k2 => ⟨_, rfl, pw, _, rfl, (mw1.draw k2).L, fun ps nps => ?_⟩⟩
      obtain ⟨sh, rfl⟩ := Int.eq_ofNat_of_zero_le r0
      rw [cut_takeV _ (by rw [List.length_map, lw]; omega), ← List.map_take]
      have g2 := (g1.draw D2 k2).newm (o := .lst ((ws.take sh).map V.str)) nps
      have mw2 := (mw1.draw k2).freshm (u := .lst ((ws.take sh).map V.str)) nps
      refine ⟨ps, _, rfl, .inl ⟨SqL.of upd_same, fun t nt => ?_⟩⟩
      exact ⟨_, t, sh, rfl, g2.new nt, mw2.fresh nt, SqT.of upd_same, by omega⟩
    rintro σ H2 ⟨F2, as, sh, rfl, g2, mw2, ss, hsh⟩
    have lsh : (ws.take sh).length = sh := by rw [List.length_take, lw]; omega
    refine ⟨Nat.zero_le _, fun pp npp => ?_⟩
    have nppH := g2.none W npp
    have nwp := mw2.ne npp
    have g3 := g2.newm (o := .lst []) npp
    have mw3 := mw2.freshm (u := .lst []) npp
    have mp3 := Own.new (o := .lst []) g2.w npp
    generalize upd H2 pp (.lst []) = H3 at g3 mw3 mp3 ⊢
    let ow : List Str := (ws.drop 3).take (3 - sh)
    have low : ow.length = 3 - sh := by show ((ws.drop 3).take (3 - sh)).length = _; rw [List.length_take, List.length_drop, lw]; omega
    have ndo : (ws.take sh ++ ow).Nodup := cut_two ndw hsh
    refine ⟨fun σ H' => ∃ (F' : Hp) (xs : List V) (ps : List Part) (y4 y5 y6 y7 y8 y9 y10 y11 y12 y13 : Option V), σ = [some (.ref d), some (.ref pw), some (.ref as), some (.ref pp), y4, y5, y6, y7, y8, y9, y10, y11, y12, y13] ∧ Go d l F H F' H' ∧ SqT K F' as ((ws.take sh).map V.str) ∧ Own d l F' H' pp (.lst xs) ∧ DpAll K F' xs (ps.map dPart) ∧ ps.length = 3 ∧ ∀ k q, ps[k]? = some q → ws[6 + k]? = some q.name ∧ q.own = ow ∧ OkRows 3 3 5 q.rows, ?_, ?_⟩
    · refine ⟨_, rfl, by decide, by decide, for_range (fun i σ H' => ∃ (F' : Hp) (xs : List V) (ps : List Part) (y4 y5 y6 y7 y8 y9 y10 y11 y12 y13 : Option V), σ = [some (.ref d), some (.ref pw), some (.ref as), some (.ref pp), y4, y5, y6, y7, y8, y9, y10, y11, y12, y13] ∧ Go d l F H F' H' ∧ SqT K F' as ((ws.take sh).map V.str) ∧ Own d l F' H' pw (.lst (ws.map V.str)) ∧ Own d l F' H' pp (.lst xs) ∧ DpAll K F' xs (ps.map dPart) ∧ ps.length = i ∧ ∀ k q, ps[k]? = some q → ws[6 + k]? = some q.name ∧ q.own = ow ∧ OkRows 3 3 5 q.rows) ⟨F2, [], [], _, _, _, _, _, _, _, _, _, _, rfl, g3, ss, mw3, mp3, .nil, rfl, fun k q e => by simp at e⟩ (fun i σ H' hi h => ?_) (fun σ H' h => ?_)⟩
      · obtain ⟨F4, xs, ps, y4, y5, y6, y7, y8, y9, y10, y11, y12, y13, rfl, g4, s4, mw4, mp4, dx, lps, hps⟩ := h
        have hi3 : i < 3 := hi
        refine ⟨fun σ H' => ∃ (F' : Hp) (ao : Addr), σ = [some (.ref d), some (.ref pw), some (.ref as), some (.ref pp), some (.int (0 + (i : Int))), some (.ref ao), y6, y7, y8, y9, y10, y11, y12, y13] ∧ Go d l F H F' H' ∧ Ex F4 F' ∧ Own d l F' H' pw (.lst (ws.map V.str)) ∧ Own d l F' H' pp (.lst xs) ∧ SqT K F' ao (ow.map V.str), ?_, ?_⟩
        · refine ⟨.ref pw, rfl, 3, rfl, .ref as, rfl, as, _, rfl, .inr (ex_T g4.sub s4), _, _, rfl, rfl, _, rfl, pw, _, rfl, mw4.L, fun pc npc => ?_⟩
          have ecut : cutV (ws.map V.str) (some 3) (some (6 - (((ws.take sh).map V.str).length : Int))) = ow.map V.str := by
            have e1 : (6 - (((ws.take sh).map V.str).length : Int)) = ((6 - sh : Nat) : Int) := by rw [List.length_map, lsh]; omega
            rw [e1]
            show cutV (ws.map V.str) (some ((3 : Nat) : Int)) _ = _
            rw [cut_nat _ (by rw [List.length_map, lw]; omega), List.length_map, lw, Nat.min_eq_left (by decide)]
            show _ = ((ws.drop 3).take (3 - sh)).map V.str
            rw [List.map_take, List.map_drop]
            congr 1
            omega
          dsimp only
          rw [ecut]
          have ga := g4.newm (o := .lst (ow.map V.str)) npc
          have mwa := mw4.freshm (u := .lst (ow.map V.str)) npc
          have mpa := mp4.freshm (u := .lst (ow.map V.str)) npc
          refine ⟨pc, _, rfl, .inl ⟨SqL.of upd_same, fun t nt => ?_⟩⟩
          exact ⟨_, t, rfl, ga.new nt, Evl.Ex.new (sub_none ga.sub nt), mwa.fresh nt, mpa.fresh nt, SqT.of upd_same⟩
        rintro σ H5 ⟨F5, ao, rfl, g5, x5, mw5, mp5, so⟩
        refine ⟨Nat.zero_le _, fun pr npr => ?_⟩
        have nprH := g5.none W npr
        have nwr := mw5.ne npr
        have npr2 := mp5.ne npr
        have g6 := g5.newm (o := .lst []) npr
        have mw6 := mw5.freshm (u := .lst []) npr
        have mp6 := mp5.freshm (u := .lst []) npr
        have mr6 := Own.new (o := .lst []) g5.w npr
        generalize upd H5 pr (.lst []) = H6 at g6 mw6 mp6 mr6 ⊢
        refine ⟨fun σ H' => ∃ (F' : Hp) (xr : List V) (rows : List (Deed × List Int)) (y7 y8 y9 y10 y11 y12 y13 : Option V), σ = [some (.ref d), some (.ref pw), some (.ref as), some (.ref pp), some (.int (0 + (i : Int))), some (.ref ao), some (.ref pr), y7, y8, y9, y10, y11, y12, y13] ∧ Go d l F H F' H' ∧ Ex F5 F' ∧ Own d l F' H' pw (.lst (ws.map V.str)) ∧ Own d l F' H' pp (.lst xs) ∧ Own d l F' H' pr (.lst xr) ∧ DpAll K F' xr (rows.map dRow) ∧ rows.length = 5 ∧ ∀ r ∈ rows, OkDeed 3 3 r.1 ∧ OkGo 5 r.2, ?_, ?_⟩
        · refine ⟨_, rfl, by decide, by decide, for_range (fun j σ H' => ∃ (F' : Hp) (xr : List V) (rows : List (Deed × List Int)) (y7 y8 y9 y10 y11 y12 y13 : Option V), σ = [some (.ref d), some (.ref pw), some (.ref as), some (.ref pp), some (.int (0 + (i : Int))), some (.ref ao), some (.ref pr), y7, y8, y9, y10, y11, y12, y13] ∧ Go d l F H F' H' ∧ Ex F5 F' ∧ Own d l F' H' pw (.lst (ws.map V.str)) ∧ Own d l F' H' pp (.lst xs) ∧ Own d l F' H' pr (.lst xr) ∧ DpAll K F' xr (rows.map dRow) ∧ rows.length = j ∧ ∀ r ∈ rows, OkDeed 3 3 r.1 ∧ OkGo 5 r.2) ⟨F5, [], [], _, _, _, _, _, _, _, rfl, g6, Evl.Ex.refl _, mw6, mp6, mr6, .nil, rfl, fun r hr => by cases hr⟩ (fun j σ H' hj h => ?_) (fun σ H' h => h)⟩
          obtain ⟨F7, xr, rows, y7, y8, y9, y10, y11, y12, y13, rfl, g7, x7, mw7, mp7, mr7, dr, lr, hrows⟩ := h
          have hj5 : j < 5 := hj
          -- the sum
          refine ⟨fun σ H' => ∃ (F' : Hp) (ag : Addr) (gs : List Int), σ = [some (.ref d), some (.ref pw), some (.ref as), some (.ref pp), some (.int (0 + (i : Int))), some (.ref ao), some (.ref pr), some (.int (0 + (j : Int))), some (.ref ag), y9, y10, y11, y12, y13] ∧ Go d l F H F' H' ∧ Ex F7 F' ∧ Own d l F' H' pw (.lst (ws.map V.str)) ∧ Own d l F' H' pp (.lst xs) ∧ Own d l F' H' pr (.lst xr) ∧ SqT K F' ag (gs.map V.int) ∧ gs.length = 4 ∧ ∀ x ∈ gs, -9 ≤ x ∧ x ≤ 9, ?_, ?_⟩
          · refine ⟨_, rfl, by decide, by decide, fun D nD => ?_⟩
            have nDH := g7.none W nD
            refine lc_range (fun b H' => ∃ gs : List Int, Go d l F H F7 H' ∧ Own d l F7 H' pw (.lst (ws.map V.str)) ∧ Own d l F7 H' pp (.lst xs) ∧ Own d l F7 H' pr (.lst xr) ∧ Own d l F7 H' D (.lst (gs.map V.int)) ∧ gs.length = b ∧ ∀ x ∈ gs, -9 ≤ x ∧ x ≤ 9) ⟨[], g7.newm nD, mw7.freshm nD, mp7.freshm nD, mr7.freshm nD, Own.new g7.w nD, rfl, fun x hx => by cases hx⟩ (fun b H' hb h => ?_) (fun H8 h => ?_)
            · obtain ⟨gs, ga, ma, mb, mc, md, lg, hg⟩ := h
              refine ⟨rfl, _, _, rfl, rfl, .ref d, rfl, d, l, 19, rfl, ga.deal, by decide, by decide, fun r Ha r0 r1 Da ka => ⟨_, _, rfl, rfl, by show 3 ≤ sizeLine; decide, fun pl npl => ?_⟩⟩
              have gb := (ga.draw Da ka).newm (o := .lst [.int 9, .int (0 - 9), .int (r - 9)]) npl
              have npd := (ga.draw Da ka).w.ne npl
              refine ⟨.ref d, rfl, d, l, 3, rfl, gb.deal, by decide, by decide, fun r2 Hb s0 s1 Db kb => ?_⟩
              have gc := gb.draw Db kb
              obtain ⟨v, ev, hv⟩ := at_in (xs := [.int 9, .int (0 - 9), .int (r - 9)]) s0 (by simpa using s1)
              obtain ⟨y, rfl, y0, y1⟩ : ∃ y, v = .int y ∧ -9 ≤ y ∧ y ≤ 9 := by
                simp only [List.mem_cons, List.not_mem_nil, or_false] at hv
                rcases hv with rfl | rfl | rfl <;> exact ⟨_, rfl, by omega, by omega⟩
              have mdc := ((md.draw ka).freshm (u := .lst [.int 9, .int (0 - 9), .int (r - 9)]) npl).draw kb
              refine ⟨pl, _, r2, _, rfl, rfl, SqL.of (kb pl _ npd.1 npd.2 upd_same), ev, _, mdc.h, small1000 (by rw [List.length_map]; omega), gs ++ [y], gc.mut nDH mdc, (((ma.draw ka).freshm npl).draw kb).other (mw7.ne nD), (((mb.draw ka).freshm npl).draw kb).other (mp7.ne nD), (((mc.draw ka).freshm npl).draw kb).other (mr7.ne nD), ?_, by rw [List.length_append, lg]; rfl, fun x hx => ?_⟩
              · rw [List.map_append]
                exact mdc.put
              · rcases List.mem_append.mp hx with h | h
                · exact hg x h
                · rw [List.mem_singleton.mp h]; exact ⟨y0, y1⟩
            · obtain ⟨gs, ga, ma, mb, mc, md, lg, hg⟩ := h
              refine ⟨D, _, rfl, .inl ⟨md.L, fun t nt => ?_⟩⟩
              exact ⟨_, t, gs, rfl, ga.new nt, Evl.Ex.new (sub_none ga.sub nt), ma.fresh nt, mb.fresh nt, mc.fresh nt, SqT.of upd_same, lg, hg⟩
          rintro σ H8 ⟨F8, ag, gs, rfl, g8, x8, mw8, mp8, mr8, sg, lg, hg⟩
          -- the deeds
          refine ⟨fun σ H' => ∃ (F' : Hp) (pl : Addr) (xl : List V), σ = [some (.ref d), some (.ref pw), some (.ref as), some (.ref pp), some (.int (0 + (i : Int))), some (.ref ao), some (.ref pr), some (.int (0 + (j : Int))), some (.ref ag), y9, some (.ref pl), y11, y12, y13] ∧ Go d l F H F' H' ∧ Ex F8 F' ∧ Own d l F' H' pw (.lst (ws.map V.str)) ∧ Own d l F' H' pp (.lst xs) ∧ Own d l F' H' pr (.lst xr) ∧ Own d l F' H' pl (.lst xl) ∧ xl.length = 4 ∧ ∀ x ∈ xl, ∃ e, Dp K F' x (dDeed e) ∧ OkDeed 3 3 e, ?_, ?_⟩
          · refine ⟨.ref d, rfl, d, l, 3, rfl, g8.deal, by decide, by decide, fun b Ha b0 b1 Da ka => ⟨.ref ag, rfl, by show 3 ≤ sizeLine; decide, fun t1 nt1 => ⟨by show 2 ≤ sizeLine; decide, fun t2 nt2 => ?_⟩⟩⟩
            obtain ⟨b, rfl⟩ := Int.eq_ofNat_of_zero_le b0
            have ga := (g8.draw Da ka).new (o := .tup [.str "set", .int b, .ref ag]) nt1
            have f1 := Evl.Ex.new (o := .tup [.str "set", .int b, .ref ag]) (sub_none (g8.draw Da ka).sub nt1)
            have gb := ga.new (o := .tup [.str "any", .int 2]) nt2
            have f2 := Evl.Ex.new (o := .tup [.str "any", .int 2]) (sub_none ga.sub nt2)
            have mwb := ((mw8.draw ka).fresh (u := .tup [.str "set", .int b, .ref ag]) nt1).fresh (u := .tup [.str "any", .int 2]) nt2
            have mpb := ((mp8.draw ka).fresh (u := .tup [.str "set", .int b, .ref ag]) nt1).fresh (u := .tup [.str "any", .int 2]) nt2
            have mrb := ((mr8.draw ka).fresh (u := .tup [.str "set", .int b, .ref ag]) nt1).fresh (u := .tup [.str "any", .int 2]) nt2
            have d1 : Dp K (upd (upd F8 t1 (.tup [.str "set", .int b, .ref ag])) t2 (.tup [.str "any", .int 2])) (.ref t1) (dDeed (.set b gs)) := Dp.ex f2 (.tup (SqT.of upd_same) (.cons (.str _) (.cons (.int _) (.cons (Dp.of_ti (ex_T f1 sg)) .nil))))
            have d2 : Dp K (upd (upd F8 t1 (.tup [.str "set", .int b, .ref ag])) t2 (.tup [.str "any", .int 2])) (.ref t2) (dDeed (.any 2)) := .tup (SqT.of upd_same) (.cons (.str _) (.cons (.int _) .nil))
            have xb := f1.trans f2
            generalize upd (upd F8 t1 (.tup [.str "set", .int b, .ref ag])) t2 (.tup [.str "any", .int 2]) = Fb at gb mwb mpb mrb d1 d2 xb
            generalize upd (upd Ha t1 (.tup [.str "set", .int b, .ref ag])) t2 (.tup [.str "any", .int 2]) = Hb at gb mwb mpb mrb ⊢
            refine ⟨.ref d, rfl, d, l, 3, rfl, gb.deal, by decide, by decide, fun c Hc c0 c1 Dc kc => ⟨by show 2 ≤ sizeLine; decide, fun t3 nt3 => ⟨by show 1 ≤ sizeLine; decide, fun t4 nt4 => ⟨by show 4 ≤ sizeLine; decide, fun pl npl => ?_⟩⟩⟩⟩
            obtain ⟨c, rfl⟩ := Int.eq_ofNat_of_zero_le c0
            have gc := (gb.draw Dc kc).new (o := .tup [.str "call", .int c]) nt3
            have f3 := Evl.Ex.new (o := .tup [.str "call", .int c]) (sub_none (gb.draw Dc kc).sub nt3)
            have gd := gc.new (o := .tup [.str "rest"]) nt4
            have f4 := Evl.Ex.new (o := .tup [.str "rest"]) (sub_none gc.sub nt4)
            have ge := gd.newm (o := .lst [.ref t1, .ref t2, .ref t3, .ref t4]) npl
            have mwe := (((mwb.draw kc).fresh (u := .tup [.str "call", .int c]) nt3).fresh (u := .tup [.str "rest"]) nt4).freshm (u := .lst [.ref t1, .ref t2, .ref t3, .ref t4]) npl
            have mpe := (((mpb.draw kc).fresh (u := .tup [.str "call", .int c]) nt3).fresh (u := .tup [.str "rest"]) nt4).freshm (u := .lst [.ref t1, .ref t2, .ref t3, .ref t4]) npl
            have mre := (((mrb.draw kc).fresh (u := .tup [.str "call", .int c]) nt3).fresh (u := .tup [.str "rest"]) nt4).freshm (u := .lst [.ref t1, .ref t2, .ref t3, .ref t4]) npl
            have f34 := f3.trans f4
            refine ⟨_, pl, _, rfl, ge, xb.trans f34, mwe, mpe, mre, Own.new gd.w npl, rfl, fun x hx => ?_⟩
            simp only [List.mem_cons, List.not_mem_nil, or_false] at hx
            rcases hx with rfl | rfl | rfl | rfl
            · exact ⟨.set b gs, d1.ex f34, by show b < 3; omega, lg, hg⟩
            · exact ⟨.any 2, d2.ex f34, by show 2 < 3; decide⟩
            · exact ⟨.call c, Dp.ex f4 (.tup (SqT.of upd_same) (.cons (.str _) (.cons (.int _) .nil))), by show c < 3; omega⟩
            · exact ⟨.rest, .tup (SqT.of upd_same) (.cons (.str _) .nil), trivial⟩
          rintro σ H9 ⟨F9, pl, xl, rfl, g9, x9, mw9, mp9, mr9, ml9, ll, hxl⟩
          refine ⟨.ref d, rfl, d, l, 6, rfl, g9.deal, by decide, by decide, fun out Hx o0 o1 Dx kx => ?_⟩
          have gx := g9.draw Dx kx
          have mwx := mw9.draw kx
          have mpx := mp9.draw kx
          have mrx := mr9.draw kx
          have mlx := ml9.draw kx
          -- the goings
          refine ⟨fun σ H' => ∃ (psm : Addr) (ns : List Int), σ = [some (.ref d), some (.ref pw), some (.ref as), some (.ref pp), some (.int (0 + (i : Int))), some (.ref ao), some (.ref pr), some (.int (0 + (j : Int))), some (.ref ag), y9, some (.ref pl), some (.int out), some (.ref psm), y13] ∧ Go d l F H F9 H' ∧ H psm = none ∧ psm ≠ pw ∧ psm ≠ pp ∧ psm ≠ pr ∧ psm ≠ pl ∧ Own d l F9 H' pw (.lst (ws.map V.str)) ∧ Own d l F9 H' pp (.lst xs) ∧ Own d l F9 H' pr (.lst xr) ∧ Own d l F9 H' pl (.lst xl) ∧ Own d l F9 H' psm (.lst (ns.map V.int)) ∧ ns.length = 5 ∧ ns.Pairwise (· < ·) ∧ ∀ x ∈ ns, 0 ≤ x ∧ x ≤ 5, ?_, ?_⟩
          · refine ⟨_, rfl, by decide, by decide, fun D nD => ?_⟩
            have nDH := gx.none W nD
            refine lc_range (fun b H' => ∃ ns : List Int, Go d l F H F9 H' ∧ Own d l F9 H' pw (.lst (ws.map V.str)) ∧ Own d l F9 H' pp (.lst xs) ∧ Own d l F9 H' pr (.lst xr) ∧ Own d l F9 H' pl (.lst xl) ∧ Own d l F9 H' D (.lst (ns.map V.int)) ∧ (ns.length : Int) + (if out < b then 1 else 0) = b ∧ ns.Pairwise (· < ·) ∧ ∀ x ∈ ns, 0 ≤ x ∧ x < b) ⟨[], gx.newm nD, mwx.freshm nD, mpx.freshm nD, mrx.freshm nD, mlx.freshm nD, Own.new gx.w nD, by rw [if_neg (by omega)]; rfl, List.Pairwise.nil, fun x hx => by cases hx⟩ (fun b H' hb h => ?_) (fun Hy h => ?_)
            · obtain ⟨ns, ga, ma, mb, mc, md, me, ln, pw', hn⟩ := h
              have hb6 : b < 6 := hb
              refine ⟨rfl, .int (0 + (b : Int)), rfl, .int out, rfl, rfl, _, rfl, ite2 (fun e => ?_) (fun e => ?_)⟩
              · have ne : ¬ (0 + (b : Int) = out) := fun h => by rw [h] at e; simp at e
                have hl : (ns.map V.int).length ≤ 1000 := by
                  rw [List.length_map]
                  split at ln <;> omega
                refine ⟨.int (0 + (b : Int)), rfl, _, me.h, small1000 hl, ns ++ [0 + (b : Int)], ga.mut nDH me, ma.other (mwx.ne nD), mb.other (mpx.ne nD), mc.other (mrx.ne nD), md.other (mlx.ne nD), by rw [List.map_append]; exact me.put, ?_, ?_, fun x hx => ?_⟩
                · rw [List.length_append]
                  show ((ns.length + 1 : Nat) : Int) + _ = _
                  by_cases h1 : out < b
                  · rw [if_pos h1] at ln
                    rw [if_pos (by omega)]
                    omega
                  · rw [if_neg h1] at ln
                    rw [if_neg (by omega)]
                    omega
                · rw [List.pairwise_append]
                  refine ⟨pw', by simp, fun x hx y hy => ?_⟩
                  rw [List.mem_singleton.mp hy]
                  have := (hn x hx).2
                  omega
                · rcases List.mem_append.mp hx with h | h
                  · have := hn x h
                    omega
                  · rw [List.mem_singleton.mp h]; omega
              · have eq : 0 + (b : Int) = out := by
                  by_cases h : 0 + (b : Int) = out
                  · exact h
                  · exact absurd (show (!decide (V.int (0 + (b : Int)) = V.int out)) = true by simp; omega) e
                refine ⟨ns, ga, ma, mb, mc, md, me, ?_, pw', fun x hx => by have := hn x hx; omega⟩
                rw [if_neg (show ¬ out < (b : Int) by omega)] at ln
                rw [if_pos (show out < ((b + 1 : Nat) : Int) by omega)]
                omega
            · obtain ⟨ns, ga, ma, mb, mc, md, me, ln, pw', hn⟩ := h
              refine ⟨D, ns, rfl, ga, nDH, (mwx.ne nD).symm, (mpx.ne nD).symm, (mrx.ne nD).symm, (mlx.ne nD).symm, ma, mb, mc, md, me, ?_, pw', fun x hx => by have : x < 6 := (hn x hx).2; have := (hn x hx).1; omega⟩
              have ln6 : (ns.length : Int) + (if out < 6 then 1 else 0) = 6 := ln
              rw [if_pos (by omega)] at ln6
              omega
          rintro σ Hy ⟨psm, ns, rfl, gy, npsm, n1, n2, n3, n4, mwy, mpy, mry, mly, msy, ln, pwn, hn⟩
          refine ⟨.ref psm, rfl, .inl ⟨rfl, _, msy.L⟩, .ref d, rfl, d, l, 5, rfl, gy.deal, by decide, by decide, fun r Hz r0 r1 Dz kz => ?_⟩
          have hr5 : r.toNat < ns.length := by omega
          have esx : seqIndex? r (ns.map V.int).length = some r.toNat := by
            rw [List.length_map, ln]
            exact seqIx r0 r1
          have msz := msy.draw kz
          have gz := (gy.draw Dz kz).mut (o := .lst ((ns.map V.int).eraseIdx r.toNat)) npsm msz
          refine ⟨psm, _, r, r.toNat, .int ns[r.toNat], rfl, rfl, msz.h, by omega, by omega, esx, by rw [List.getElem?_map, List.getElem?_eq_getElem hr5]; rfl, ?_⟩
          have ms2 : Own d l F9 (upd Hz psm (.lst ((ns.map V.int).eraseIdx r.toNat))) psm (.lst ((ns.map V.int).eraseIdx r.toNat)) := msz.put
          have mwz := (mwy.draw kz).other (u := .lst ((ns.map V.int).eraseIdx r.toNat)) n1.symm
          have mpz := (mpy.draw kz).other (u := .lst ((ns.map V.int).eraseIdx r.toNat)) n2.symm
          have mrz := (mry.draw kz).other (u := .lst ((ns.map V.int).eraseIdx r.toNat)) n3.symm
          have mlz := (mly.draw kz).other (u := .lst ((ns.map V.int).eraseIdx r.toNat)) n4.symm
          have ems : (ns.map V.int).eraseIdx r.toNat = (ns.eraseIdx r.toNat).map V.int := (erase_mapI ns r.toNat)
          rw [ems] at gz ms2 mwz mpz mrz mlz ⊢
          have lms : (ns.eraseIdx r.toNat).length = 4 := by rw [List.length_eraseIdx_of_lt hr5, ln]
          have pwm := erase_pw (j := r.toNat) pwn
          have hm : ∀ x ∈ ns.eraseIdx r.toNat, 0 ≤ x ∧ x ≤ 5 := fun x hx => hn x (List.mem_of_mem_eraseIdx hx)
          generalize ns.eraseIdx r.toNat = ms at gz ms2 mwz mpz mrz mlz lms pwm hm ⊢
          generalize upd Hz psm (.lst (ms.map V.int)) = Hw at gz ms2 mwz mpz mrz mlz ⊢
          refine ⟨.ref pr, rfl, .inl ⟨rfl, _, mrz.L⟩, .ref pl, rfl, .ref d, rfl, d, l, 4, rfl, gz.deal, by decide, by decide, fun r4 Hv q0 q1 Dv kv => ?_⟩
          obtain ⟨xd, exd, hxd⟩ := at_in (xs := xl) q0 (by rw [ll]; exact q1)
          obtain ⟨e, de, oke⟩ := hxl xd hxd
          have gv := gz.draw Dv kv
          refine ⟨pl, _, r4, xd, rfl, rfl, (mlz.draw kv).L, exd, .ref psm, rfl, 3, rfl, psm, _, rfl, (ms2.draw kv).L, fun pc npc => ?_⟩
          have ecut : cutV (ms.map V.int) none (some 3) = (ms.take 3).map V.int := cut_take ms (s := 3) (by omega)
          rw [ecut]
          have gu := gv.newm (o := .lst ((ms.take 3).map V.int)) npc
          have mru := (mrz.draw kv).freshm (u := .lst ((ms.take 3).map V.int)) npc
          have mwu := (mwz.draw kv).freshm (u := .lst ((ms.take 3).map V.int)) npc
          have mpu := (mpz.draw kv).freshm (u := .lst ((ms.take 3).map V.int)) npc
          refine ⟨pc, _, rfl, .inl ⟨SqL.of upd_same, fun t nt => ⟨by show 2 ≤ sizeLine; decide, fun t2 nt2 => ?_⟩⟩⟩
          have gt := gu.new (o := .tup ((ms.take 3).map V.int)) nt
          have ft := Evl.Ex.new (o := .tup ((ms.take 3).map V.int)) (sub_none gu.sub nt)
          have gs2 := gt.new (o := .tup [xd, .ref t]) nt2
          have fs := Evl.Ex.new (o := .tup [xd, .ref t]) (sub_none gt.sub nt2)
          have mrs := (mru.fresh (u := .tup ((ms.take 3).map V.int)) nt).fresh (u := .tup [xd, .ref t]) nt2
          have mws := (mwu.fresh (u := .tup ((ms.take 3).map V.int)) nt).fresh (u := .tup [xd, .ref t]) nt2
          have mps := (mpu.fresh (u := .tup ((ms.take 3).map V.int)) nt).fresh (u := .tup [xd, .ref t]) nt2
          have hl : xr.length ≤ 1000 := by rw [dr.length, List.length_map, lr]; omega
          refine ⟨pr, xr, _, rfl, rfl, mrs.h, small1000 hl, _, xr ++ [.ref t2], rows ++ [(e, ms.take 3)], _, _, _, _, _, _, _, rfl, gs2.mut nprH mrs, ((x7.trans x8).trans x9).trans (ft.trans fs), mws.other nwr, mps.other npr2, mrs.put, ?_, by rw [List.length_append, lr]; rfl, fun r hr => ?_⟩
          · rw [List.map_append]
            exact (dr.ex ((x8.trans x9).trans (ft.trans fs))).snoc (.tup (SqT.of upd_same) (.cons (de.ex (ft.trans fs)) (.cons (Dp.ex fs (Dp.of_ti (SqT.of upd_same))) .nil)))
          · rcases List.mem_append.mp hr with h | h
            · exact hrows r h
            · rw [List.mem_singleton.mp h]
              have l3 : (ms.take 3).length = 3 := by rw [List.length_take]; omega
              exact ⟨oke, by show 1 ≤ (ms.take 3).length; omega, by show (ms.take 3).length ≤ 3; omega, pwm.sublist (List.take_sublist _ _), fun x hx => hm x (List.mem_of_mem_take hx)⟩
        rintro σ H7 ⟨F7, xr, rows, y7, y8, y9, y10, y11, y12, y13, rfl, g7, x7, mw7, mp7, mr7, dr, lr, hrows⟩
        have h6 : 6 + i < ws.length := by rw [lw]; omega
        have eat : atI (ws.map V.str) (6 + (0 + (i : Int))) = some (.str ws[6 + i]) := by
          have : 6 + (0 + (i : Int)) = ((6 + i : Nat) : Int) := by omega
          rw [this]
          exact atI_nat (by rw [List.getElem?_map, List.getElem?_eq_getElem h6]; rfl)
        refine ⟨.ref pp, rfl, .inl ⟨rfl, _, mp7.L⟩, .ref pw, rfl, .int (0 + (i : Int)), rfl, _, _, rfl, rfl, pw, _, _, _, rfl, rfl, mw7.L, eat, .ref ao, rfl, .ref pr, rfl, pr, _, rfl, .inl ⟨mr7.L, fun t nt => ⟨by show 3 ≤ sizeLine; decide, fun t2 nt2 => ?_⟩⟩⟩
        have gt := g7.new (o := .tup xr) nt
        have ft := Evl.Ex.new (o := .tup xr) (sub_none g7.sub nt)
        have gs2 := gt.new (o := .tup [.str ws[6 + i], .ref ao, .ref t]) nt2
        have fs := Evl.Ex.new (o := .tup [.str ws[6 + i], .ref ao, .ref t]) (sub_none gt.sub nt2)
        have mws := (mw7.fresh (u := .tup xr) nt).fresh (u := .tup [.str ws[6 + i], .ref ao, .ref t]) nt2
        have mps := (mp7.fresh (u := .tup xr) nt).fresh (u := .tup [.str ws[6 + i], .ref ao, .ref t]) nt2
        have hl : xs.length ≤ 1000 := by rw [dx.length, List.length_map, lps]; omega
        have xa := (x5.trans x7).trans (ft.trans fs)
        refine ⟨pp, xs, _, rfl, rfl, mps.h, small1000 hl, _, xs ++ [.ref t2], ps ++ [⟨ws[6 + i], ow, rows⟩], _, _, _, _, _, _, _, _, _, _, rfl, gs2.mut nppH mps, ex_T xa s4, mws.other nwp, mps.put, ?_, by rw [List.length_append, lps]; rfl, fun k q e => ?_⟩
        · rw [List.map_append]
          exact (dx.ex xa).snoc (.tup (SqT.of upd_same) (.cons (.str _) (.cons (.tup (ex_T (x7.trans (ft.trans fs)) so) (DpAll.strs _)) (.cons (Dp.ex fs (.tup (SqT.of upd_same) (dr.ex ft))) .nil))))
        · by_cases hk : k < ps.length
          · rw [List.getElem?_append_left hk] at e
            exact hps k q e
          · have hlt := (List.getElem?_eq_some_iff.mp e).1
            rw [List.length_append] at hlt
            have hk2 : k = ps.length := by
              simp at hlt
              omega
            subst hk2
            rw [List.getElem?_append_right (Nat.le_refl _), Nat.sub_self] at e
            have ep : (⟨ws[6 + i], ow, rows⟩ : Part) = q := by simpa using e
            subst ep
            rw [lps]
            refine ⟨List.getElem?_eq_getElem h6, rfl, by show 1 ≤ rows.length; omega, by show rows.length ≤ 5; omega, ?_⟩
            show ∀ r ∈ rows, OkDeed 3 3 r.1 ∧ OkGo rows.length r.2
            rw [lr]
            exact hrows
      · obtain ⟨F4, xs, ps, y4, y5, y6, y7, y8, y9, y10, y11, y12, y13, rfl, g4, s4, mw4, mp4, dx, lps, hps⟩ := h
        exact ⟨F4, xs, ps, _, _, _, _, _, _, _, _, _, _, rfl, g4, s4, mp4, dx, lps, hps⟩
    · rintro σ H5 ⟨F4, xs, ps, y4, y5, y6, y7, y8, y9, y10, y11, y12, y13, rfl, ga, s4, mb, dx, lps, hps⟩
      refine ⟨.ref as, rfl, .ref pp, rfl, pp, xs, rfl, .inl ⟨mb.L, fun t nt => ⟨by show 2 ≤ sizeLine; decide, fun t2 nt2 => ?_⟩⟩⟩
      have gb := ga.new (o := .tup xs) nt
      have fx := Evl.Ex.new (o := .tup xs) (sub_none ga.sub nt)
      have gc := gb.new (o := .tup [.ref as, .ref t]) nt2
      have fx2 := Evl.Ex.new (o := .tup [.ref as, .ref t]) (sub_none gb.sub nt2)
      refine fin _ _ _ ⟨ws.take sh, ps⟩ gc (.tup (SqT.of upd_same) (.cons (.tup (ex_T (fx.trans fx2) s4) (DpAll.strs _)) (.cons (Dp.ex fx2 (.tup (SqT.of upd_same) (dx.ex fx))) .nil))) ⟨by show 1 ≤ ps.length; omega, by show ps.length ≤ 3; omega, ndw.sublist (List.take_sublist _ _), ?_, fun q hq => ?_⟩
      · have e : ps.map Part.name = (ws.drop 6).take ps.length := by
          apply List.ext_getElem?
          intro k
          by_cases hk : k < ps.length
          · have e : ps[k]? = some ps[k] := List.getElem?_eq_getElem hk
            obtain ⟨h1, _⟩ := hps k _ e
            rw [List.getElem?_map, e, List.getElem?_take, if_pos hk, List.getElem?_drop, h1]
            rfl
          · rw [List.getElem?_eq_none (by rw [List.length_map]; omega), List.getElem?_eq_none]
            rw [List.length_take]
            omega
        show (ps.map Part.name).Nodup
        rw [e]
        exact ndw.sublist ((List.take_sublist _ _).trans (List.drop_sublist _ _))
      · obtain ⟨k, ek⟩ := List.mem_iff_getElem?.mp hq
        obtain ⟨_, eo, ro⟩ := hps k q ek
        have e3 : (ws.take sh).length + q.own.length = 3 := by rw [lsh, eo, low]; omega
        refine ⟨by rw [eo]; exact ndo, by show (ws.take sh).length + q.own.length ≤ 3; omega, ?_⟩
        show OkRows ((ws.take sh).length + q.own.length) ps.length 5 q.rows
        rw [e3, lps]
        exact ro
/-! ### the law -/
def sp_law (K : PySem.W.Frag) : Sp := fun vs H Q _ => ∃ (a : Addr) (ns : List Int), vs = [.ref a] ∧ SqL K H a (ns.map V.int) ∧ ns.length ≤ 63 ∧ ∀ H', Q (.bl true) H'
theorem ok_law {k : Nat} (T : Txt K mg) : FnOk P w K mg base CX0 (k + 7) T.f_law T.fd_law ["_law_script"] (sp_law K) := by
  have G__law_draw : FnOk P w K mg base CX0 1 T.f__law_draw T.fd__law_draw ["_law_deal_here", "_law_many"] sp_draw := ok_draw T
  have G__law_deal : FnOk P w K mg base CX0 1 T.f__law_deal T.fd__law_deal ["_law_script", "_law_base"] (sp_deal K) := ok_deal T
  have G__law_program : FnOk P w K mg base CX0 6 T.f__law_program T.fd__law_program ["_law_deal_here", "_law_most_boxes", "_law_most_parts", "_law_most_rows"] (sp_program K) := ok_program T
  have G__law_renamed : FnOk P w K mg base CX0 2 T.f__law_renamed T.fd__law_renamed ["_law_deal_here", "_law_program_here"] (sp_renamed K) := ok_renamed T
  have G__law_at_bounds : FnOk P w K mg base CX0 3 T.f__law_at_bounds T.fd__law_at_bounds ["_law_deal_here"] (sp_bounds K) := ok_bounds T
  have G_look : FnOk P w K mg base CX0 4 T.f_look T.fd_look ["program"] (sp_look K) := ok_look T
  refine T.F_law.ok sc_law (fun vs H Q E h => ?_) (fun cdv A outer s H vs Q E hr h => ?_)
  · obtain ⟨a, ns, rfl, _⟩ := h
    rfl
  · obtain ⟨a, ns, rfl, hS, hl, fin⟩ := h
    refine ⟨_, (pss_cons (ps_set (i := 1) sc_law.nd rfl (Or.inl rfl) (pe_call G__law_deal (hr.mono (by omega)) (by rfl) T.g__law_deal T.F__law_deal.kp T.b__law_deal .nil pass0 (pa_cons (pv 0) (pa_cons pe_int pa_nil))))
      (pss_cons (ps_set (i := 2) sc_law.nd rfl (Or.inl rfl) (pe_lst pa_nil))
      (Evl.pss_cut (ps_for PassesOwn.never rfl (pi_range1 (by rfl) T.z_range (pa_cons pe_int pa_nil)) (pg_name (i := 3) sc_law.nd rfl (Or.inl rfl))
        (pss_cons (ps_set (i := 4) sc_law.nd rfl (Or.inl rfl) (pe_call G__law_program (hr.mono (by omega)) (by rfl) T.g__law_program T.F__law_program.kp T.b__law_program .nil pass0 (pa_cons (pv 1) (pa_cons pe_int (pa_cons pe_int (pa_cons pe_int pa_nil))))))
        (Evl.pss_cut (ps_if (pt_cmpR op_eq (pe_call G__law_draw (hr.mono (by omega)) (by rfl) T.g__law_draw T.F__law_draw.kp T.b__law_draw .nil pass0 (pa_cons (pv 1) (pa_cons pe_int pa_nil))) pe_int (nomark _)) (pss_one (ps_set (i := 4) sc_law.nd rfl (Or.inl rfl) (pe_call G__law_renamed (hr.mono (by omega)) (by rfl) T.g__law_renamed T.F__law_renamed.kp T.b__law_renamed .nil pass0 (pa_cons (pv 1) (pa_cons (pv 4) pa_nil))))) pss_nil)
        (Evl.pss_cut (ps_if (pt_cmpR op_eq (pe_call G__law_draw (hr.mono (by omega)) (by rfl) T.g__law_draw T.F__law_draw.kp T.b__law_draw .nil pass0 (pa_cons (pv 1) (pa_cons pe_int pa_nil))) pe_int (nomark _)) (pss_one (ps_set (i := 4) sc_law.nd rfl (Or.inl rfl) (pe_call G__law_at_bounds (hr.mono (by omega)) (by rfl) T.g__law_at_bounds T.F__law_at_bounds.kp T.b__law_at_bounds .nil pass0 (pa_cons (pv 1) pa_nil)))) pss_nil)
        (pss_one (ps_expr (pe_bmK (K := K) PySem.F.plainAttrs_list PySem.F.slot_list_append PySem.F.type_list_append mt_append (pv 2) (pa_cons (pv 4) pa_nil))))))))
      (pss_one (ps_ret (pe_callB (cr_allK (K := K) rfl) (by rfl) T.z_all bt_all (pa_cons (pe_lc (own := [("_law_program_here", 4)]) (g := gName 4) (tt := tYes) rfl sc_law.nd (pi_listK (K := K) (pe_op op_cat (pv 2) (pv 2))) (blkOk_by (own := [("_law_program_here", 4)]) (N := nm_law) (sc := defScope st_law) (by decide +kernel)) (fun _ _ _ _ _ => (pg_name (i := 4) sc_law.nd rfl (Or.inl rfl))) (fun _ _ _ _ _ => pts_nil) (fun _ _ _ _ _ => (pe_cmpR op_isBl (pe_call G_look (hr.mono (by omega)) (by rfl) T.g_look T.F_look.kp T.b_look .nil pass0 (pa_cons (pv 4) pa_nil)) pe_bl (nomark _)))) pa_nil))))))), ?_⟩
    refine ⟨.ref a, rfl, a, ns, 0, rfl, hS, hl, by decide, by decide, fun d l H1 x1 nd nl D1 => ?_⟩
    have W0 : Wr d l (fun _ => none) H1 := ⟨(fun _ _ e => by cases e), rfl, rfl, D1⟩
    refine ⟨Nat.zero_le _, fun pp npp => ?_⟩
    have g2 := (Go.refl W0).newm (o := .lst []) npp
    have mp2 := Own.new (o := .lst []) W0 npp
    generalize upd H1 pp (.lst []) = H2 at g2 mp2 ⊢
    refine ⟨fun σ H' => ∃ (F' : Hp) (xs : List V) (ps : List Prog) (y3 y4 : Option V), σ = [some (.ref a), some (.ref d), some (.ref pp), y3, y4] ∧ Go d l (fun _ => none) H1 F' H' ∧ Own d l F' H' pp (.lst xs) ∧ DpAll K F' xs (ps.map dProg) ∧ ps.length = 4 ∧ ∀ p ∈ ps, LookOk p, ?_, ?_⟩
    · refine ⟨_, rfl, by decide, by decide, for_range (fun i σ H' => ∃ (F' : Hp) (xs : List V) (ps : List Prog) (y3 y4 : Option V), σ = [some (.ref a), some (.ref d), some (.ref pp), y3, y4] ∧ Go d l (fun _ => none) H1 F' H' ∧ Own d l F' H' pp (.lst xs) ∧ DpAll K F' xs (ps.map dProg) ∧ ps.length = i ∧ ∀ p ∈ ps, LookOk p) ⟨_, [], [], _, _, rfl, g2, mp2, .nil, rfl, fun p hp => by cases hp⟩ (fun i σ H' hi h => ?_) (fun σ H' h => h)⟩
      obtain ⟨F3, xs, ps, y3, y4, rfl, g3, m3, dx, lps, hps⟩ := h
      have hi4 : i < 4 := hi
      refine ⟨.ref d, rfl, d, l, 3, 3, 5, F3, rfl, g3.w, by decide, by decide, by decide, by decide, by decide, fun v F4 H4 p g4 dv O => ?_⟩
      have m4 := m3.go g4
      have L4 := (O.look (by decide) (by decide) (by decide)).1
      refine ⟨fun σ H' => ∃ (F' : Hp) (v : V) (p : Prog), σ = [some (.ref a), some (.ref d), some (.ref pp), some (.int (0 + (i : Int))), some v] ∧ Go d l F4 H4 F' H' ∧ Dp K F' v (dProg p) ∧ LookOk p, ?_, ?_⟩
      · refine ⟨.ref d, rfl, d, l, 2, rfl, g4.deal, by decide, by decide, fun r H5 r0 r1 D5 k5 => ⟨rfl, _, rfl, ite2 (fun e => ?_) (fun e => ⟨F4, v, p, rfl, (Go.refl g4.w).draw D5 k5, dv, L4⟩)⟩⟩
        have g5 := (Go.refl g4.w).draw D5 k5
        exact ⟨.ref d, rfl, v, rfl, d, l, v, p, F4, rfl, g5.w, dv, O, fun v' F6 H6 p' g6 dv' L' => ⟨F6, v', p', rfl, g5.trans g6, dv', L'⟩⟩
      rintro σ H5 ⟨F5, v5, p5, rfl, g5, dv5, L5⟩
      refine ⟨fun σ H' => ∃ (F' : Hp) (v : V) (p : Prog), σ = [some (.ref a), some (.ref d), some (.ref pp), some (.int (0 + (i : Int))), some v] ∧ Go d l F5 H5 F' H' ∧ Dp K F' v (dProg p) ∧ LookOk p, ?_, ?_⟩
      · refine ⟨.ref d, rfl, d, l, 4, rfl, g5.deal, by decide, by decide, fun r H6 r0 r1 D6 k6 => ⟨rfl, _, rfl, ite2 (fun e => ?_) (fun e => ⟨F5, v5, p5, rfl, (Go.refl g5.w).draw D6 k6, dv5, L5⟩)⟩⟩
        have g6 := (Go.refl g5.w).draw D6 k6
        exact ⟨.ref d, rfl, d, l, F5, rfl, g6.w, fun v' F7 H7 p' g7 dv' L' => ⟨F7, v', p', rfl, g6.trans g7, dv', L'⟩⟩
      rintro σ H6 ⟨F6, v6, p6, rfl, g6, dv6, L6⟩
      have m6 := (m4.go g5).go g6
      have gf := ((g3.trans g4).trans g5).trans g6
      have hl : xs.length ≤ 1000 := by rw [dx.length, List.length_map, lps]; omega
      refine ⟨.ref pp, rfl, .inl ⟨rfl, _, m6.L⟩, v6, rfl, pp, xs, _, rfl, rfl, m6.h, small1000 hl, F6, xs ++ [v6], ps ++ [p6], _, _, rfl, gf.mut npp m6, m6.put, ?_, by rw [List.length_append, lps]; rfl, fun p hp => ?_⟩
      · rw [List.map_append]
        exact (dx.ex ((g4.fz.trans g5.fz).trans g6.fz)).snoc dv6
      · rcases List.mem_append.mp hp with h | h
        · exact hps p h
        · rw [List.mem_singleton.mp h]; exact L6
    · rintro σ H3 ⟨F3, xs, ps, y3, y4, rfl, g3, m3, dx, lps, hps⟩
      have lx : xs.length = 4 := by rw [dx.length, List.length_map, lps]
      refine ⟨.ref pp, rfl, .ref pp, rfl, pp, pp, _, _, rfl, rfl, m3.h, m3.h, Nat.le_of_lt (small1000 (by omega)), fun p2 np2 => ?_⟩
      have x2 := Evl.Ex.new (o := .lst (xs ++ xs)) np2
      refine ⟨p2, rfl, ⟨_, SqL.of upd_same⟩, fun D nD => ?_⟩
      have ne2 : p2 ≠ D := ne_of_none upd_same nD
      have nD3 : H3 D = none := Evl.fresh_back x2 nD
      refine lc_list (K := K) (a := p2) (xs := xs ++ xs) (fun i H' => Ex H3 H' ∧ H' p2 = some (.lst (xs ++ xs)) ∧ H' D = some (.lst ((List.replicate i true).map V.bl))) ⟨x2.trans (Evl.Ex.new nD), by rw [upd_ne ne2, upd_same], upd_same⟩ (fun i H' _ h => SqL.of h.2.1) (fun i x H' hx h => ?_) (fun H' h => ?_)
      · obtain ⟨xx, hp2, hD⟩ := h
        have hmem : x ∈ xs := by
          rcases List.mem_append.mp (List.mem_of_getElem? hx) with h | h <;> exact h
        obtain ⟨j, hj⟩ := List.mem_iff_getElem?.mp hmem
        obtain ⟨p, ep, dp⟩ := dp_at' dx hj
        have hi : i < (xs ++ xs).length := (List.getElem?_eq_some_iff.mp hx).1
        rw [List.length_append] at hi
        refine ⟨rfl, x, rfl, x, p, rfl, dp.ex (g3.sub.trans xx), hps p (List.mem_of_getElem? ep), fun H5 x5 => ⟨_, _, rfl, rfl, _, x5 _ _ hD, ?_, Evl.Ex.mut (xx.trans x5) nD3, ?_, ?_⟩⟩
        · rw [List.length_map, List.length_replicate]
          exact small1000 (by omega)
        · rw [upd_ne ne2]
          exact x5 _ _ hp2
        · rw [upd_same]
          exact snoc_true rfl
      · refine ⟨D, _, rfl, SqL.of h.2.2, ?_⟩
        rw [all_true]
        exact fin H'
abbrev level : Nat := 7
theorem law_starts {K : PySem.W.Frag} {H : Hp} {a : Addr} {ns : List Int} (hl : ns.length ≤ 63) (hS : SqL K H a (ns.map V.int)) : sp_law K [.ref a] H (fun v _ => v = .bl true) fun _ _ _ => False := ⟨a, ns, rfl, hS, hl, fun _ => rfl⟩
theorem law_ok {fa : Addr} (hmg : mg "law" = some (.ref fa)) (T : Txt K mg) :
    ∃ fd : FuncData, (∀ (s : Shared) (v : Value), BindsTo s fd ⟨[v], []⟩ [("_law_script", v)]) ∧ ∀ base : Heap, K.In base → base.Ns mainGlobals mg → FnOk P w K mg base CX0 level fa fd ["_law_script"] (sp_law K) := by
  have e := hmg.symm.trans T.g_law
  cases e
  refine ⟨T.fd_law, fun s v => ?_, fun base _ _ => ok_law T⟩
  obtain ⟨oc, od, kV, doc, pm, an, cdv, ct, osl, e, lk, hcd⟩ := T.F_law.ex
  rw [e]
  exact .of_eq rfl

end
def txt_mk {K : PySem.W.Frag} {h : Heap} {mg : Str → Option Value} (X : K.In h) (G : h.Ns mainGlobals mg) {t_MOST_PARTS t_MOST_ROWS t_MOST_GOINGS t_MOST_BOXES t_GREATEST : Tok}
    {f_need : Addr} {od_need an_need : Option Addr} {sl_need : Array (Option Value)} {oc_need kV_need dc_need pm_need cd_need ct_need : Value}
    (a_need : PySem.W.nsIn K mainGlobals "need" = some (some (.ref f_need))) (l_need : K.lookup f_need = some ⟨oc_need, od_need, .func (PySem.W.fnOf "need" "need" (defArgs st_need) (defBody st_need) (defScope st_need) .none kV_need dc_need pm_need an_need cd_need ct_need), sl_need⟩) (c_need : PySem.W.codeIn K cd_need "need" = true) (k_need : PySem.W.keepIn K (.ref f_need) = true)
    {f_rising : Addr} {od_rising an_rising : Option Addr} {sl_rising : Array (Option Value)} {oc_rising kV_rising dc_rising pm_rising cd_rising ct_rising : Value}
    (a_rising : PySem.W.nsIn K mainGlobals "rising" = some (some (.ref f_rising))) (l_rising : K.lookup f_rising = some ⟨oc_rising, od_rising, .func (PySem.W.fnOf "rising" "rising" (defArgs st_rising) (defBody st_rising) (defScope st_rising) .none kV_rising dc_rising pm_rising an_rising cd_rising ct_rising), sl_rising⟩) (c_rising : PySem.W.codeIn K cd_rising "rising" = true) (k_rising : PySem.W.keepIn K (.ref f_rising) = true)
    {f_look_row : Addr} {od_look_row an_look_row : Option Addr} {sl_look_row : Array (Option Value)} {oc_look_row kV_look_row dc_look_row pm_look_row cd_look_row ct_look_row : Value}
    (a_look_row : PySem.W.nsIn K mainGlobals "look_row" = some (some (.ref f_look_row))) (l_look_row : K.lookup f_look_row = some ⟨oc_look_row, od_look_row, .func (PySem.W.fnOf "look_row" "look_row" (defArgs st_look_row) (defBody st_look_row) (defScope st_look_row) .none kV_look_row dc_look_row pm_look_row an_look_row cd_look_row ct_look_row), sl_look_row⟩) (c_look_row : PySem.W.codeIn K cd_look_row "look_row" = true) (k_look_row : PySem.W.keepIn K (.ref f_look_row) = true)
    {f_look_part : Addr} {od_look_part an_look_part : Option Addr} {sl_look_part : Array (Option Value)} {oc_look_part kV_look_part dc_look_part pm_look_part cd_look_part ct_look_part : Value}
    (a_look_part : PySem.W.nsIn K mainGlobals "look_part" = some (some (.ref f_look_part))) (l_look_part : K.lookup f_look_part = some ⟨oc_look_part, od_look_part, .func (PySem.W.fnOf "look_part" "look_part" (defArgs st_look_part) (defBody st_look_part) (defScope st_look_part) .none kV_look_part dc_look_part pm_look_part an_look_part cd_look_part ct_look_part), sl_look_part⟩) (c_look_part : PySem.W.codeIn K cd_look_part "look_part" = true) (k_look_part : PySem.W.keepIn K (.ref f_look_part) = true)
    {f_look : Addr} {od_look an_look : Option Addr} {sl_look : Array (Option Value)} {oc_look kV_look dc_look pm_look cd_look ct_look : Value}
    (a_look : PySem.W.nsIn K mainGlobals "look" = some (some (.ref f_look))) (l_look : K.lookup f_look = some ⟨oc_look, od_look, .func (PySem.W.fnOf "look" "look" (defArgs st_look) (defBody st_look) (defScope st_look) .none kV_look dc_look pm_look an_look cd_look ct_look), sl_look⟩) (c_look : PySem.W.codeIn K cd_look "look" = true) (k_look : PySem.W.keepIn K (.ref f_look) = true)
    {f__law_deal : Addr} {od__law_deal an__law_deal : Option Addr} {sl__law_deal : Array (Option Value)} {oc__law_deal kV__law_deal dc__law_deal pm__law_deal cd__law_deal ct__law_deal : Value}
    (a__law_deal : PySem.W.nsIn K mainGlobals "_law_deal" = some (some (.ref f__law_deal))) (l__law_deal : K.lookup f__law_deal = some ⟨oc__law_deal, od__law_deal, .func (PySem.W.fnOf "_law_deal" "_law_deal" (defArgs st__law_deal) (defBody st__law_deal) (defScope st__law_deal) .none kV__law_deal dc__law_deal pm__law_deal an__law_deal cd__law_deal ct__law_deal), sl__law_deal⟩) (c__law_deal : PySem.W.codeIn K cd__law_deal "_law_deal" = true) (k__law_deal : PySem.W.keepIn K (.ref f__law_deal) = true)
    {f__law_draw : Addr} {od__law_draw an__law_draw : Option Addr} {sl__law_draw : Array (Option Value)} {oc__law_draw kV__law_draw dc__law_draw pm__law_draw cd__law_draw ct__law_draw : Value}
    (a__law_draw : PySem.W.nsIn K mainGlobals "_law_draw" = some (some (.ref f__law_draw))) (l__law_draw : K.lookup f__law_draw = some ⟨oc__law_draw, od__law_draw, .func (PySem.W.fnOf "_law_draw" "_law_draw" (defArgs st__law_draw) (defBody st__law_draw) (defScope st__law_draw) .none kV__law_draw dc__law_draw pm__law_draw an__law_draw cd__law_draw ct__law_draw), sl__law_draw⟩) (c__law_draw : PySem.W.codeIn K cd__law_draw "_law_draw" = true) (k__law_draw : PySem.W.keepIn K (.ref f__law_draw) = true)
    {f__law_words : Addr} {od__law_words an__law_words : Option Addr} {sl__law_words : Array (Option Value)} {oc__law_words kV__law_words dc__law_words pm__law_words cd__law_words ct__law_words : Value}
    (a__law_words : PySem.W.nsIn K mainGlobals "_law_words" = some (some (.ref f__law_words))) (l__law_words : K.lookup f__law_words = some ⟨oc__law_words, od__law_words, .func (PySem.W.fnOf "_law_words" "_law_words" (defArgs st__law_words) (defBody st__law_words) (defScope st__law_words) .none kV__law_words dc__law_words pm__law_words an__law_words cd__law_words ct__law_words), sl__law_words⟩) (c__law_words : PySem.W.codeIn K cd__law_words "_law_words" = true) (k__law_words : PySem.W.keepIn K (.ref f__law_words) = true)
    {f__law_small : Addr} {od__law_small an__law_small : Option Addr} {sl__law_small : Array (Option Value)} {oc__law_small kV__law_small dc__law_small pm__law_small cd__law_small ct__law_small : Value}
    (a__law_small : PySem.W.nsIn K mainGlobals "_law_small" = some (some (.ref f__law_small))) (l__law_small : K.lookup f__law_small = some ⟨oc__law_small, od__law_small, .func (PySem.W.fnOf "_law_small" "_law_small" (defArgs st__law_small) (defBody st__law_small) (defScope st__law_small) .none kV__law_small dc__law_small pm__law_small an__law_small cd__law_small ct__law_small), sl__law_small⟩) (c__law_small : PySem.W.codeIn K cd__law_small "_law_small" = true) (k__law_small : PySem.W.keepIn K (.ref f__law_small) = true)
    {f__law_sum : Addr} {od__law_sum an__law_sum : Option Addr} {sl__law_sum : Array (Option Value)} {oc__law_sum kV__law_sum dc__law_sum pm__law_sum cd__law_sum ct__law_sum : Value}
    (a__law_sum : PySem.W.nsIn K mainGlobals "_law_sum" = some (some (.ref f__law_sum))) (l__law_sum : K.lookup f__law_sum = some ⟨oc__law_sum, od__law_sum, .func (PySem.W.fnOf "_law_sum" "_law_sum" (defArgs st__law_sum) (defBody st__law_sum) (defScope st__law_sum) .none kV__law_sum dc__law_sum pm__law_sum an__law_sum cd__law_sum ct__law_sum), sl__law_sum⟩) (c__law_sum : PySem.W.codeIn K cd__law_sum "_law_sum" = true) (k__law_sum : PySem.W.keepIn K (.ref f__law_sum) = true)
    {f__law_goings : Addr} {od__law_goings an__law_goings : Option Addr} {sl__law_goings : Array (Option Value)} {oc__law_goings kV__law_goings dc__law_goings pm__law_goings cd__law_goings ct__law_goings : Value}
    (a__law_goings : PySem.W.nsIn K mainGlobals "_law_goings" = some (some (.ref f__law_goings))) (l__law_goings : K.lookup f__law_goings = some ⟨oc__law_goings, od__law_goings, .func (PySem.W.fnOf "_law_goings" "_law_goings" (defArgs st__law_goings) (defBody st__law_goings) (defScope st__law_goings) .none kV__law_goings dc__law_goings pm__law_goings an__law_goings cd__law_goings ct__law_goings), sl__law_goings⟩) (c__law_goings : PySem.W.codeIn K cd__law_goings "_law_goings" = true) (k__law_goings : PySem.W.keepIn K (.ref f__law_goings) = true)
    {f__law_deed : Addr} {od__law_deed an__law_deed : Option Addr} {sl__law_deed : Array (Option Value)} {oc__law_deed kV__law_deed dc__law_deed pm__law_deed cd__law_deed ct__law_deed : Value}
    (a__law_deed : PySem.W.nsIn K mainGlobals "_law_deed" = some (some (.ref f__law_deed))) (l__law_deed : K.lookup f__law_deed = some ⟨oc__law_deed, od__law_deed, .func (PySem.W.fnOf "_law_deed" "_law_deed" (defArgs st__law_deed) (defBody st__law_deed) (defScope st__law_deed) .none kV__law_deed dc__law_deed pm__law_deed an__law_deed cd__law_deed ct__law_deed), sl__law_deed⟩) (c__law_deed : PySem.W.codeIn K cd__law_deed "_law_deed" = true) (k__law_deed : PySem.W.keepIn K (.ref f__law_deed) = true)
    {f__law_part : Addr} {od__law_part an__law_part : Option Addr} {sl__law_part : Array (Option Value)} {oc__law_part kV__law_part dc__law_part pm__law_part cd__law_part ct__law_part : Value}
    (a__law_part : PySem.W.nsIn K mainGlobals "_law_part" = some (some (.ref f__law_part))) (l__law_part : K.lookup f__law_part = some ⟨oc__law_part, od__law_part, .func (PySem.W.fnOf "_law_part" "_law_part" (defArgs st__law_part) (defBody st__law_part) (defScope st__law_part) .none kV__law_part dc__law_part pm__law_part an__law_part cd__law_part ct__law_part), sl__law_part⟩) (c__law_part : PySem.W.codeIn K cd__law_part "_law_part" = true) (k__law_part : PySem.W.keepIn K (.ref f__law_part) = true)
    {f__law_program : Addr} {od__law_program an__law_program : Option Addr} {sl__law_program : Array (Option Value)} {oc__law_program kV__law_program dc__law_program pm__law_program cd__law_program ct__law_program : Value}
    (a__law_program : PySem.W.nsIn K mainGlobals "_law_program" = some (some (.ref f__law_program))) (l__law_program : K.lookup f__law_program = some ⟨oc__law_program, od__law_program, .func (PySem.W.fnOf "_law_program" "_law_program" (defArgs st__law_program) (defBody st__law_program) (defScope st__law_program) .none kV__law_program dc__law_program pm__law_program an__law_program cd__law_program ct__law_program), sl__law_program⟩) (c__law_program : PySem.W.codeIn K cd__law_program "_law_program" = true) (k__law_program : PySem.W.keepIn K (.ref f__law_program) = true)
    {f__law_renamed : Addr} {od__law_renamed an__law_renamed : Option Addr} {sl__law_renamed : Array (Option Value)} {oc__law_renamed kV__law_renamed dc__law_renamed pm__law_renamed cd__law_renamed ct__law_renamed : Value}
    (a__law_renamed : PySem.W.nsIn K mainGlobals "_law_renamed" = some (some (.ref f__law_renamed))) (l__law_renamed : K.lookup f__law_renamed = some ⟨oc__law_renamed, od__law_renamed, .func (PySem.W.fnOf "_law_renamed" "_law_renamed" (defArgs st__law_renamed) (defBody st__law_renamed) (defScope st__law_renamed) .none kV__law_renamed dc__law_renamed pm__law_renamed an__law_renamed cd__law_renamed ct__law_renamed), sl__law_renamed⟩) (c__law_renamed : PySem.W.codeIn K cd__law_renamed "_law_renamed" = true) (k__law_renamed : PySem.W.keepIn K (.ref f__law_renamed) = true)
    {f__law_at_bounds : Addr} {od__law_at_bounds an__law_at_bounds : Option Addr} {sl__law_at_bounds : Array (Option Value)} {oc__law_at_bounds kV__law_at_bounds dc__law_at_bounds pm__law_at_bounds cd__law_at_bounds ct__law_at_bounds : Value}
    (a__law_at_bounds : PySem.W.nsIn K mainGlobals "_law_at_bounds" = some (some (.ref f__law_at_bounds))) (l__law_at_bounds : K.lookup f__law_at_bounds = some ⟨oc__law_at_bounds, od__law_at_bounds, .func (PySem.W.fnOf "_law_at_bounds" "_law_at_bounds" (defArgs st__law_at_bounds) (defBody st__law_at_bounds) (defScope st__law_at_bounds) .none kV__law_at_bounds dc__law_at_bounds pm__law_at_bounds an__law_at_bounds cd__law_at_bounds ct__law_at_bounds), sl__law_at_bounds⟩) (c__law_at_bounds : PySem.W.codeIn K cd__law_at_bounds "_law_at_bounds" = true) (k__law_at_bounds : PySem.W.keepIn K (.ref f__law_at_bounds) = true)
    {f_law : Addr} {od_law an_law : Option Addr} {sl_law : Array (Option Value)} {oc_law kV_law dc_law pm_law cd_law ct_law : Value}
    (a_law : PySem.W.nsIn K mainGlobals "law" = some (some (.ref f_law))) (l_law : K.lookup f_law = some ⟨oc_law, od_law, .func (PySem.W.fnOf "law" "law" (defArgs st_law) (defBody st_law) (defScope st_law) .none kV_law dc_law pm_law an_law cd_law ct_law), sl_law⟩) (c_law : PySem.W.codeIn K cd_law "law" = true) (k_law : PySem.W.keepIn K (.ref f_law) = true)
    (z_abs : PySem.W.nsIn K mainGlobals "abs" = some none)
    (z_all : PySem.W.nsIn K mainGlobals "all" = some none)
    (z_enumerate : PySem.W.nsIn K mainGlobals "enumerate" = some none)
    (z_int : PySem.W.nsIn K mainGlobals "int" = some none)
    (z_len : PySem.W.nsIn K mainGlobals "len" = some none)
    (z_list : PySem.W.nsIn K mainGlobals "list" = some none)
    (z_max : PySem.W.nsIn K mainGlobals "max" = some none)
    (z_min : PySem.W.nsIn K mainGlobals "min" = some none)
    (z_range : PySem.W.nsIn K mainGlobals "range" = some none)
    (z_reversed : PySem.W.nsIn K mainGlobals "reversed" = some none)
    (z_set : PySem.W.nsIn K mainGlobals "set" = some none)
    (z_sorted : PySem.W.nsIn K mainGlobals "sorted" = some none)
    (z_tuple : PySem.W.nsIn K mainGlobals "tuple" = some none)
    (a_MOST_PARTS : PySem.W.nsIn K mainGlobals "MOST_PARTS" = some (some (.int 3 t_MOST_PARTS)))
    (a_MOST_ROWS : PySem.W.nsIn K mainGlobals "MOST_ROWS" = some (some (.int 5 t_MOST_ROWS)))
    (a_MOST_GOINGS : PySem.W.nsIn K mainGlobals "MOST_GOINGS" = some (some (.int 3 t_MOST_GOINGS)))
    (a_MOST_BOXES : PySem.W.nsIn K mainGlobals "MOST_BOXES" = some (some (.int 3 t_MOST_BOXES)))
    (a_GREATEST : PySem.W.nsIn K mainGlobals "GREATEST" = some (some (.int 9 t_GREATEST))) : Txt K mg :=
  {
    f_need := f_need, fd_need := _, F_need := fun_mk (st := st_need) l_need c_need k_need, b_need := (fun_mk (st := st_need) l_need c_need k_need).binds (ps := ["good", "word", "part", "row"]) fun _ _ _ _ _ _ us hl => match us, hl with | [_, _, _, _], _ => rfl, g_need := PySem.W.mg_of X G a_need,
    f_rising := f_rising, fd_rising := _, F_rising := fun_mk (st := st_rising) l_rising c_rising k_rising, b_rising := (fun_mk (st := st_rising) l_rising c_rising k_rising).binds (ps := ["numbers"]) fun _ _ _ _ _ _ us hl => match us, hl with | [_], _ => rfl, g_rising := PySem.W.mg_of X G a_rising,
    f_look_row := f_look_row, fd_look_row := _, F_look_row := fun_mk (st := st_look_row) l_look_row c_look_row k_look_row, b_look_row := (fun_mk (st := st_look_row) l_look_row c_look_row k_look_row).binds (ps := ["program", "p", "k"]) fun _ _ _ _ _ _ us hl => match us, hl with | [_, _, _], _ => rfl, g_look_row := PySem.W.mg_of X G a_look_row,
    f_look_part := f_look_part, fd_look_part := _, F_look_part := fun_mk (st := st_look_part) l_look_part c_look_part k_look_part, b_look_part := (fun_mk (st := st_look_part) l_look_part c_look_part k_look_part).binds (ps := ["program", "p"]) fun _ _ _ _ _ _ us hl => match us, hl with | [_, _], _ => rfl, g_look_part := PySem.W.mg_of X G a_look_part,
    f_look := f_look, fd_look := _, F_look := fun_mk (st := st_look) l_look c_look k_look, b_look := (fun_mk (st := st_look) l_look c_look k_look).binds (ps := ["program"]) fun _ _ _ _ _ _ us hl => match us, hl with | [_], _ => rfl, g_look := PySem.W.mg_of X G a_look,
    f__law_deal := f__law_deal, fd__law_deal := _, F__law_deal := fun_mk (st := st__law_deal) l__law_deal c__law_deal k__law_deal, b__law_deal := (fun_mk (st := st__law_deal) l__law_deal c__law_deal k__law_deal).binds (ps := ["_law_script", "_law_base"]) fun _ _ _ _ _ _ us hl => match us, hl with | [_, _], _ => rfl, g__law_deal := PySem.W.mg_of X G a__law_deal,
    f__law_draw := f__law_draw, fd__law_draw := _, F__law_draw := fun_mk (st := st__law_draw) l__law_draw c__law_draw k__law_draw, b__law_draw := (fun_mk (st := st__law_draw) l__law_draw c__law_draw k__law_draw).binds (ps := ["_law_deal_here", "_law_many"]) fun _ _ _ _ _ _ us hl => match us, hl with | [_, _], _ => rfl, g__law_draw := PySem.W.mg_of X G a__law_draw,
    f__law_words := f__law_words, fd__law_words := _, F__law_words := fun_mk (st := st__law_words) l__law_words c__law_words k__law_words, b__law_words := (fun_mk (st := st__law_words) l__law_words c__law_words k__law_words).binds (ps := ["_law_deal_here", "_law_many"]) fun _ _ _ _ _ _ us hl => match us, hl with | [_, _], _ => rfl, g__law_words := PySem.W.mg_of X G a__law_words,
    f__law_small := f__law_small, fd__law_small := _, F__law_small := fun_mk (st := st__law_small) l__law_small c__law_small k__law_small, b__law_small := (fun_mk (st := st__law_small) l__law_small c__law_small k__law_small).binds (ps := ["_law_deal_here"]) fun _ _ _ _ _ _ us hl => match us, hl with | [_], _ => rfl, g__law_small := PySem.W.mg_of X G a__law_small,
    f__law_sum := f__law_sum, fd__law_sum := _, F__law_sum := fun_mk (st := st__law_sum) l__law_sum c__law_sum k__law_sum, b__law_sum := (fun_mk (st := st__law_sum) l__law_sum c__law_sum k__law_sum).binds (ps := ["_law_deal_here", "_law_n"]) fun _ _ _ _ _ _ us hl => match us, hl with | [_, _], _ => rfl, g__law_sum := PySem.W.mg_of X G a__law_sum,
    f__law_goings := f__law_goings, fd__law_goings := _, F__law_goings := fun_mk (st := st__law_goings) l__law_goings c__law_goings k__law_goings, b__law_goings := (fun_mk (st := st__law_goings) l__law_goings c__law_goings k__law_goings).binds (ps := ["_law_deal_here", "_law_at", "_law_many"]) fun _ _ _ _ _ _ us hl => match us, hl with | [_, _, _], _ => rfl, g__law_goings := PySem.W.mg_of X G a__law_goings,
    f__law_deed := f__law_deed, fd__law_deed := _, F__law_deed := fun_mk (st := st__law_deed) l__law_deed c__law_deed k__law_deed, b__law_deed := (fun_mk (st := st__law_deed) l__law_deed c__law_deed k__law_deed).binds (ps := ["_law_deal_here", "_law_n", "_law_parts"]) fun _ _ _ _ _ _ us hl => match us, hl with | [_, _, _], _ => rfl, g__law_deed := PySem.W.mg_of X G a__law_deed,
    f__law_part := f__law_part, fd__law_part := _, F__law_part := fun_mk (st := st__law_part) l__law_part c__law_part k__law_part, b__law_part := (fun_mk (st := st__law_part) l__law_part c__law_part k__law_part).binds (ps := ["_law_deal_here", "_law_name", "_law_shared", "_law_own", "_law_parts", "_law_most"]) fun _ _ _ _ _ _ us hl => match us, hl with | [_, _, _, _, _, _], _ => rfl, g__law_part := PySem.W.mg_of X G a__law_part,
    f__law_program := f__law_program, fd__law_program := _, F__law_program := fun_mk (st := st__law_program) l__law_program c__law_program k__law_program, b__law_program := (fun_mk (st := st__law_program) l__law_program c__law_program k__law_program).binds (ps := ["_law_deal_here", "_law_most_boxes", "_law_most_parts", "_law_most_rows"]) fun _ _ _ _ _ _ us hl => match us, hl with | [_, _, _, _], _ => rfl, g__law_program := PySem.W.mg_of X G a__law_program,
    f__law_renamed := f__law_renamed, fd__law_renamed := _, F__law_renamed := fun_mk (st := st__law_renamed) l__law_renamed c__law_renamed k__law_renamed, b__law_renamed := (fun_mk (st := st__law_renamed) l__law_renamed c__law_renamed k__law_renamed).binds (ps := ["_law_deal_here", "_law_program_here"]) fun _ _ _ _ _ _ us hl => match us, hl with | [_, _], _ => rfl, g__law_renamed := PySem.W.mg_of X G a__law_renamed,
    f__law_at_bounds := f__law_at_bounds, fd__law_at_bounds := _, F__law_at_bounds := fun_mk (st := st__law_at_bounds) l__law_at_bounds c__law_at_bounds k__law_at_bounds, b__law_at_bounds := (fun_mk (st := st__law_at_bounds) l__law_at_bounds c__law_at_bounds k__law_at_bounds).binds (ps := ["_law_deal_here"]) fun _ _ _ _ _ _ us hl => match us, hl with | [_], _ => rfl, g__law_at_bounds := PySem.W.mg_of X G a__law_at_bounds,
    f_law := f_law, fd_law := _, F_law := fun_mk (st := st_law) l_law c_law k_law, b_law := (fun_mk (st := st_law) l_law c_law k_law).binds (ps := ["_law_script"]) fun _ _ _ _ _ _ us hl => match us, hl with | [_], _ => rfl, g_law := PySem.W.mg_of X G a_law,
    z_abs := PySem.W.mg_none_of X G z_abs,
    z_all := PySem.W.mg_none_of X G z_all,
    z_enumerate := PySem.W.mg_none_of X G z_enumerate,
    z_int := PySem.W.mg_none_of X G z_int,
    z_len := PySem.W.mg_none_of X G z_len,
    z_list := PySem.W.mg_none_of X G z_list,
    z_max := PySem.W.mg_none_of X G z_max,
    z_min := PySem.W.mg_none_of X G z_min,
    z_range := PySem.W.mg_none_of X G z_range,
    z_reversed := PySem.W.mg_none_of X G z_reversed,
    z_set := PySem.W.mg_none_of X G z_set,
    z_sorted := PySem.W.mg_none_of X G z_sorted,
    z_tuple := PySem.W.mg_none_of X G z_tuple,
    u_MOST_PARTS := _,
    g_MOST_PARTS := PySem.W.mg_of X G a_MOST_PARTS,
    r_MOST_PARTS := ⟨t_MOST_PARTS, rfl⟩,
    u_MOST_ROWS := _,
    g_MOST_ROWS := PySem.W.mg_of X G a_MOST_ROWS,
    r_MOST_ROWS := ⟨t_MOST_ROWS, rfl⟩,
    u_MOST_GOINGS := _,
    g_MOST_GOINGS := PySem.W.mg_of X G a_MOST_GOINGS,
    r_MOST_GOINGS := ⟨t_MOST_GOINGS, rfl⟩,
    u_MOST_BOXES := _,
    g_MOST_BOXES := PySem.W.mg_of X G a_MOST_BOXES,
    r_MOST_BOXES := ⟨t_MOST_BOXES, rfl⟩,
    u_GREATEST := _,
    g_GREATEST := PySem.W.mg_of X G a_GREATEST,
    r_GREATEST := ⟨t_GREATEST, rfl⟩ }
end LW
open PySem PySem.W PyProof.Rows
set_option maxHeartbeats 0 in
theorem PySem.Challenge.cw_curvekept_k15_programs_let_by_holds : PySem.Challenge.rw_curvekept_k15_programs_let_by.Holds := by
  w_on; o_law; k_head; (case hw => w_witness2)
  k_fill
  refine L2.walk_of (l := PySem.Challenge.rw_curvekept_k15_programs_let_by) (n := 63) (k := LW.level) (x := "_law_script") (CX := fun _ => L2.CX0) (sp := fun w => LW.sp_law _) rfl (by decide) rfl ⟨rfl, by decide, by decide⟩ (fun w h Y => PySem.W.kIn_of Y) ?F (fun _ _ a ns hl _ hS => LW.law_starts hl hS) (fun _ _ _ _ _ h => h)
  case F =>
    intro w mg fa h KX G hmg
    refine' LW.law_ok hmg (LW.txt_mk KX G ?a_need ?l_need ?c_need ?k_need ?a_rising ?l_rising ?c_rising ?k_rising ?a_look_row ?l_look_row ?c_look_row ?k_look_row ?a_look_part ?l_look_part ?c_look_part ?k_look_part ?a_look ?l_look ?c_look ?k_look ?a__law_deal ?l__law_deal ?c__law_deal ?k__law_deal ?a__law_draw ?l__law_draw ?c__law_draw ?k__law_draw ?a__law_words ?l__law_words ?c__law_words ?k__law_words ?a__law_small ?l__law_small ?c__law_small ?k__law_small ?a__law_sum ?l__law_sum ?c__law_sum ?k__law_sum ?a__law_goings ?l__law_goings ?c__law_goings ?k__law_goings ?a__law_deed ?l__law_deed ?c__law_deed ?k__law_deed ?a__law_part ?l__law_part ?c__law_part ?k__law_part ?a__law_program ?l__law_program ?c__law_program ?k__law_program ?a__law_renamed ?l__law_renamed ?c__law_renamed ?k__law_renamed ?a__law_at_bounds ?l__law_at_bounds ?c__law_at_bounds ?k__law_at_bounds ?a_law ?l_law ?c_law ?k_law ?z_abs ?z_all ?z_enumerate ?z_int ?z_len ?z_list ?z_max ?z_min ?z_range ?z_reversed ?z_set ?z_sorted ?z_tuple ?a_MOST_PARTS ?a_MOST_ROWS ?a_MOST_GOINGS ?a_MOST_BOXES ?a_GREATEST)
    (case a_need => k_is); (case l_need => k_is); (case c_need => k_is); (case k_need => k_is); (case a_rising => k_is); (case l_rising => k_is); (case c_rising => k_is); (case k_rising => k_is); (case a_look_row => k_is); (case l_look_row => k_is); (case c_look_row => k_is); (case k_look_row => k_is); (case a_look_part => k_is); (case l_look_part => k_is); (case c_look_part => k_is); (case k_look_part => k_is); (case a_look => k_is); (case l_look => k_is); (case c_look => k_is); (case k_look => k_is); (case a__law_deal => k_is); (case l__law_deal => k_is); (case c__law_deal => k_is); (case k__law_deal => k_is); (case a__law_draw => k_is); (case l__law_draw => k_is); (case c__law_draw => k_is); (case k__law_draw => k_is); (case a__law_words => k_is); (case l__law_words => k_is); (case c__law_words => k_is); (case k__law_words => k_is); (case a__law_small => k_is); (case l__law_small => k_is); (case c__law_small => k_is); (case k__law_small => k_is); (case a__law_sum => k_is); (case l__law_sum => k_is); (case c__law_sum => k_is); (case k__law_sum => k_is); (case a__law_goings => k_is); (case l__law_goings => k_is); (case c__law_goings => k_is); (case k__law_goings => k_is); (case a__law_deed => k_is); (case l__law_deed => k_is); (case c__law_deed => k_is); (case k__law_deed => k_is); (case a__law_part => k_is); (case l__law_part => k_is); (case c__law_part => k_is); (case k__law_part => k_is); (case a__law_program => k_is); (case l__law_program => k_is); (case c__law_program => k_is); (case k__law_program => k_is); (case a__law_renamed => k_is); (case l__law_renamed => k_is); (case c__law_renamed => k_is); (case k__law_renamed => k_is); (case a__law_at_bounds => k_is); (case l__law_at_bounds => k_is); (case c__law_at_bounds => k_is); (case k__law_at_bounds => k_is); (case a_law => k_is); (case l_law => k_is); (case c_law => k_is); (case k_law => k_is); (case z_abs => k_is); (case z_all => k_is); (case z_enumerate => k_is); (case z_int => k_is); (case z_len => k_is); (case z_list => k_is); (case z_max => k_is); (case z_min => k_is); (case z_range => k_is); (case z_reversed => k_is); (case z_set => k_is); (case z_sorted => k_is); (case z_tuple => k_is); (case a_MOST_PARTS => k_is); (case a_MOST_ROWS => k_is); (case a_MOST_GOINGS => k_is); (case a_MOST_BOXES => k_is); (case a_GREATEST => k_is)
