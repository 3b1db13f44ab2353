import PyProof.Rows.All
import Wide.All
import OpenK.AllK
import Wide.FinOn
import HandS.ForMost
import HandS.IsInst
import HandS.Rev
import HandS.Style
import HandS.Conv
import HandS.TupAny
import HandS.Evl
import HandS.Walk
import HandS.Deep
import HandS.Zip
import PyProof.ListStr
import KE.SortData
import KE.SortKeyHeap
import PyProof.ReprRoads
import KE.GoesEnum
import HandS.RaiseMore
import PyProof.ReprLen
import PyProof.Rows.RegStrFacts
import PySem.Challenge.RW_curvekept_k29_rows_of_boxes_and_maps
set_option Elab.async false
set_option linter.all false
set_option maxRecDepth 100000
set_option maxHeartbeats 2000000
/-! Rules of the layer with the written part as a letter of its own, so that they serve within comprehensions. -/
namespace CB
open PySem PySem.Spec PyProof.Rows L2
section
variable {X : Cx} {K : PySem.W.Frag} {tg e e2 : Expr} {es : List Expr} {ta : TA} {te tl : TE}
abbrev rLenQ (K : PySem.W.Frag) : List V → Hp → VK → Prop := fun xs H Q => ∃ p ys, xs = [.ref p] ∧ (SqL K H p ys ∨ SqT K H p ys) ∧ Q (.int ys.length) H
abbrev rListQ (K : PySem.W.Frag) : List V → Hp → VK → Prop := fun xs H Q => ∃ p ys, xs = [.ref p] ∧ (SqL K H p ys ∨ SqT K H p ys) ∧ ∀ l, H l = none → Q (.ref l) (upd H l (.lst ys))
abbrev rTupleQ (K : PySem.W.Frag) : List V → Hp → VK → Prop := fun xs H Q => ∃ p ys, xs = [.ref p] ∧ ((SqL K H p ys ∧ ∀ l, H l = none → Q (.ref l) (upd H l (.tup ys))) ∨ (SqT K H p ys ∧ Q (.ref p) H))
theorem call_lenK (hK : X.K = K := by rfl) : CallR X (.builtin "len") (rLenQ K) := hK ▸ call_len_seq
theorem call_listK (hK : X.K = K := by rfl) : CallR X (.type "list") (rListQ K) := hK ▸ call_list_of
theorem call_tupleK (hK : X.K = K := by rfl) : CallR X (.type "tuple") (rTupleQ K) := hK ▸ call_tuple_of
theorem cr_sumK (hc : X.calm = true) (hK : X.K = K := by rfl) : CallR X (.builtin "sum") (rSum K) := hK ▸ cr_sum hc
theorem cr_allK (hc : X.calm = true) (hK : X.K = K := by rfl) : CallR X (.builtin "all") (rAll K) := hK ▸ cr_all hc
theorem cr_anyK (hc : X.calm = true) (hK : X.K = K := by rfl) : CallR X (.builtin "any") (rAny K) := hK ▸ cr_any hc
theorem call_isiK' (hK : X.K = K := by rfl) : CallR X (.builtin "isinstance") (rIsi K) := hK ▸ call_isi
theorem ix_listK (hK : X.K = K := by rfl) : IxR X (rIxL K) := hK ▸ ix_list
theorem ix_tupK (hK : X.K = K := by rfl) : IxR X (rIxT K) := hK ▸ ix_tup
theorem sl_listK (hK : X.K = K := by rfl) : SlR X (rSlL K) := hK ▸ sl_list
theorem sl_tupK (hK : X.K = K := by rfl) : SlR X (rSlA K) := hK ▸ sl_tupA
theorem op_inK (hK : X.K = K := by rfl) : OpR X (compareOp .In) (rIn K false) := hK ▸ op_in_seq
theorem op_notInK (hK : X.K = K := by rfl) : OpR X (compareOp .NotIn) (rIn K true) := hK ▸ op_notIn_seq
theorem op_eqDK (hu : X.A.units + 64 < cLine) (hK : X.K = K := by rfl) : OpR X (compareOp .Eq) (rEqD K) := hK ▸ op_eqD hu
theorem op_neDK (hu : X.A.units + 64 < cLine) (hK : X.K = K := by rfl) : OpR X (compareOp .NotEq) (rNeD K) := hK ▸ op_neD hu
theorem op_catK (hK : X.K = K := by rfl) : OpR X (binaryOp .Add) (rCatA K) := hK ▸ op_catA
theorem pi_listK (hl : PE X e tl) (hK : X.K = K := by rfl) : PI X tg e (iList K tl) := hK ▸ pi_list hl
theorem pi_tupK (hl : PE X e tl) (hK : X.K = K := by rfl) : PI X tg e (iTup K tl) := hK ▸ pi_tup hl
theorem pi_enumK {p pos tpos : Pos} {elts : List Expr} {kk : Nat} (hg : Gl X "enumerate") (hm : X.mg "enumerate" = none) (ha : PA X [e] ta) (hs : starEach [e] X.env = [(false, eval e X.env)] := by rfl) (hK : X.K = K := by rfl) :
    PI X (.Tuple elts kk tpos) (.Call (.Name "enumerate" p) [e] [] pos) (iEnum K ta) := hK ▸ pi_enum hg hm ha hs
theorem pi_zipK {p pos tpos : Pos} {elts : List Expr} {kk : Nat} (hg : Gl X "zip") (hm : X.mg "zip" = none) (ha : PA X [e, e2] ta)
    (hs : starEach [e, e2] X.env = (false, eval e X.env) :: starEach [e2] X.env := by rfl) (hpl : (backTo pos (starEach [e2] X.env)).any (·.1) = false := by rfl) (hK : X.K = K := by rfl) :
    PI X (.Tuple elts kk tpos) (.Call (.Name "zip" p) [e, e2] [] pos) (iZip K ta) := hK ▸ pi_zip hg hm ha hs hpl
theorem pg_tupK {es : List Expr} {k n : Nat} {t : TGs} {pos : Pos} (hc : X.calm = true) (h : PGs X es t)
    (hn : (assignEach es X.env).length = n := by rfl) (hst : (assignEach es X.env).findIdx? (·.1) = none := by rfl) (hK : X.K = K := by rfl) : PG X (.Tuple es k pos) (gTup K n t) := hK ▸ pg_tup hc h hn hst
theorem pe_revK {k : Nat} {p1 p2 p3 pos : Pos} (he : PE X e te) (hK : X.K = K := by rfl) : PE X (.Subscript e (.Slice none none (some (.UnaryOp .USub (.Constant (.int 1) k p1) p2)) p3) pos) (tRevL K te) := hK ▸ pe_revL he
theorem pe_bmK {o : Expr} {to : TE} {T id : String} {name : Str} {r : V → List V → Hp → VK → Prop} {apos cpos : Pos} (pa : PlainAttrs T) (slot : Slot T name id) (hty : typeOf (.builtin id) = pure (.type "method_descriptor")) (hm : MtR X id r) (ho : PE X o to) (ha : PA X (e :: es) ta)
    (hbase : attributeBase o name X.env (eval o X.env) = eval o X.env := by rfl)
    (hfew : ((backTo cpos (starEach (e :: es) X.env)).all (fun x => !x.1) && (backToKw cpos (keywordEach [] X.env)).all (fun x => x.1.isSome)
      && decide ((e :: es).length + ([] : List Keyword).length + (if ([] : List Keyword).isEmpty then 0 else 1) < 30)) = true := by rfl)
    (hline : (apos.endLine == cpos.line) = true := by rfl) (hs : starEach (e :: es) X.env = (false, eval e X.env) :: starEach es X.env := by rfl) (hplain : (backTo cpos (starEach es X.env)).any (·.1) = false := by rfl) (hK : X.K = K := by rfl) :
    PE X (.Call (.Attribute o name apos) (e :: es) [] cpos) (tBM K T r to ta) := hK ▸ pe_bm pa slot hty hm ho ha hbase hfew hline hs hplain
end
end CB

set_option Elab.async false
set_option linter.all false
set_option maxRecDepth 100000
set_option maxHeartbeats 2000000
namespace CB
open PySem PySem.Spec PyProof.Rows L2

/-! ### the built-ins -/
theorem bt_abs : bootBuiltins "abs" = some (.builtin "abs") := by decide +kernel
theorem bt_all : bootBuiltins "all" = some (.builtin "all") := by decide +kernel
theorem bt_any : bootBuiltins "any" = some (.builtin "any") := by decide +kernel
theorem bt_isinstance : bootBuiltins "isinstance" = some (.builtin "isinstance") := by decide +kernel
theorem bt_len : bootBuiltins "len" = some (.builtin "len") := by decide +kernel
theorem bt_max : bootBuiltins "max" = some (.builtin "max") := by decide +kernel
theorem bt_min : bootBuiltins "min" = some (.builtin "min") := by decide +kernel
theorem bt_repr : bootBuiltins "repr" = some (.builtin "repr") := by decide +kernel
theorem bt_sorted : bootBuiltins "sorted" = some (.builtin "sorted") := by decide +kernel
theorem bt_sum : bootBuiltins "sum" = some (.builtin "sum") := by decide +kernel
theorem bt_ord : bootBuiltins "ord" = some (.builtin "ord") := by decide +kernel
theorem bt_chr : bootBuiltins "chr" = some (.builtin "chr") := by decide +kernel
theorem bt_bool : bootBuiltins "bool" = some (.type "bool") := by decide +kernel
theorem bt_dict : bootBuiltins "dict" = some (.type "dict") := by decide +kernel
theorem bt_int : bootBuiltins "int" = some (.type "int") := by decide +kernel
theorem bt_list : bootBuiltins "list" = some (.type "list") := by decide +kernel
theorem bt_set : bootBuiltins "set" = some (.type "set") := by decide +kernel
theorem bt_str : bootBuiltins "str" = some (.type "str") := by decide +kernel
theorem bt_tuple : bootBuiltins "tuple" = some (.type "tuple") := by decide +kernel
/-! ### list(reversed(l)) -/
section
variable {prog : Program} {w : World} {A : Around} {E : Value → Shared → Prop} {s : Shared}
theorem extend_rev {it l S : Addr} {items : Array Value} {c0 : Nat} {R : Result → Shared → Prop} (hh : A.handled = none) (hit : s.heap.IsRevIter it l ((items.size : Int) - 1)) (hl : s.heap.IsList l items) (hne : l ≠ it) (hn : items.size ≤ sizeLine)
    (hS : s.heap.get? S = some { cls := .type "list", data := .seq #[] c0 }) (hSi : S ≠ it) (hSl : S ≠ l)
    (hR : ∀ s' acc c', (∀ b o, b ≠ S → b ≠ it → s.heap.get? b = some o → s'.heap.get? b = some o) → (∃ h' tk, s' = { s with heap := h', toks := tk }) →
      s'.heap.get? S = some { cls := .type "list", dict := none, data := .seq acc c', slots := #[] } → ItemsOf (fun i v => items[items.size - 1 - i]? = some v) acc items.size → R (.ok (.ret .none)) s') :
    wpAny (model prog w) A.in1 (Builtin.List.listExtendWith (.ref S) (.ref it) .none)
      (fun fin s' => match fin with | .done f => R (.ok f) s' | .again c' => c'.quiet = true ∧ codeAny (model prog w) A c' R s') (fun e s' => R (.error e) s') s := by
  have W := (Walks.listRev (prog := prog) (w := w) (A := A.in1) hh it l hne items).toS
  have hSf : S ∉ [it, l] := by simp only [List.mem_cons, List.not_mem_nil, or_false, not_or]; exact ⟨hSi, hSl⟩
  have hT := hit.typeIs
  have h1 : Builtin.List.listSameRef (.ref S) (.ref it) = false := by simp [Builtin.List.listSameRef, hSi]
  unfold Builtin.List.listExtendWith
  refine wpAny_bind (wpAny_typeOf hT ?_)
  rw [if_neg (by rw [h1]; decide)]
  refine wpAny_bind (wpAny_pyIter_revIter hit ?_)
  refine wpAny_bind (wpAny_holding ?_)
  unfold Builtin.List.listLengthHint
  refine wpAny_bind (wpAny_specialOf hT RT.nolen_lri ?_)
  show wpAny _ A.in1 (specialOf (Value.ref it) (Str.ofString "__length_hint__") >>= _) _ _ _
  refine wpAny_bind (wpAny_specialOf hT RT.hint_lri ?_)
  generalize hid : ("list_reverseiterator.__length_hint__" : String) = id0
  wp_delta
  rw [show splitId id0 = some ("list_reverseiterator", "__length_hint__") from by subst hid; decide +kernel]
  subst hid
  refine wpAny_bind (wpAny_isInstance (b := true) hT (by rw [isSubtype_type]; kernel_rfl) ?_)
  refine wpAny_pure ?_
  rw [if_neg (by decide)]
  have e0 : ((items.size : Nat) : Int) - 1 - ((0 : Nat) : Int) = (items.size : Int) - 1 := by omega
  refine wpAny_pure ⟨plainId_quiet F.plain_extend_loop _, codeAny_extend_loopS W hn _ hSf _ items.size 0 _ _ _ rfl (Nat.zero_le _) ⟨Nat.zero_le _, by rw [e0]; exact hit, hl⟩ hS (ItemsOf.nil _) fun s' acc' c' hm hS' hacc => ?_⟩
  refine hR s' acc' c' (fun b o hb hb2 e => hm.heap b o (fun hmem => ?_) e) ⟨_, _, Moved.eq_with hm⟩ hS' hacc
  rcases List.mem_cons.mp hmem with e' | hmem
  · exact hb e'
  · exact hb2 (List.mem_singleton.mp hmem)
theorem call_list_rev {it l : Addr} {items : Array Value} {Q : Value → Shared → Prop} (hh : A.handled = none) (hit : s.heap.IsRevIter it l ((items.size : Int) - 1)) (hl : s.heap.IsList l items) (hne : l ≠ it) (hn : items.size ≤ sizeLine)
    (hQ : ∀ h' tk acc c', (∀ b o, b ≠ it → s.heap.get? b = some o → h'.get? b = some o) → h'.get? s.heap.objs.size = some { cls := .type "list", dict := none, data := .seq acc c', slots := #[] } →
      ItemsOf (fun i v => items[items.size - 1 - i]? = some v) acc items.size → Q (.ref s.heap.objs.size) { s with heap := h', toks := tk }) :
    wpAny (model prog w) A (call (.type "list") [.ref it]) Q E s := by
  obtain ⟨oi, hoi, _⟩ := id hit
  obtain ⟨ol, hol, _⟩ := id hl
  have hSi : s.heap.objs.size ≠ it := Nat.ne_of_gt (Heap.lt_size hoi)
  have hSl : s.heap.objs.size ≠ l := Nat.ne_of_gt (Heap.lt_size hol)
  refine callType_codes (Q₁ := fun obj s₁ => obj = .ref s.heap.objs.size ∧ s₁ = { s with heap := s.heap.push { cls := .type "list", data := .seq #[] } }) F.called_list (F.typeCall_list_1 _) F.entry_list_init
    (code_list_new _ ⟨rfl, rfl⟩) fun obj s₁ h₁ => ?_
  obtain ⟨rfl, rfl⟩ := h₁
  have hS : (s.heap.push { cls := .type "list", data := .seq #[] }).get? s.heap.objs.size = some { cls := .type "list", data := .seq #[] } := Heap.get?_push_size _ rfl
  refine ⟨⟨_, hS, rfl⟩, F.args_list_init_2 _ _, ?_⟩
  show wpAny _ A.in1.in1 (do let old ← Builtin.List.listItems (.ref s.heap.objs.size); Builtin.List.listUpdate (.ref s.heap.objs.size) (fun _ => #[]); letGo old.toList.reverse; Builtin.List.listExtendWith (.ref s.heap.objs.size) (.ref it) .none) _ _ _
  refine wpAny_bind ?_
  unfold Builtin.List.listItems
  refine wpAny_bind (wpAny_seqItems hS rfl (wpAny_pure ?_))
  show wpAny _ _ (updateSeq s.heap.objs.size (fun _ => #[]) >>= fun _ => letGo (#[] : Array Value).toList.reverse >>= fun _ => Builtin.List.listExtendWith (.ref s.heap.objs.size) (.ref it) .none) _ _ _
  refine wpAny_bind (wpAny_updateSeq hS rfl ?_)
  have hS2 := Heap.get?_update_self (Obj.mapSeq (fun _ => (#[] : Array Value))) hS rfl
  have oth : ∀ b o, s.heap.get? b = some o → ((s.heap.push { cls := .type "list", data := .seq #[] }).update s.heap.objs.size (Obj.mapSeq (fun _ => (#[] : Array Value)))).get? b = some o :=
    fun b o e => (Heap.get?_update_other _ _ (Nat.ne_of_gt (Heap.lt_size e))).trans (Heap.get?_push_of_some _ e)
  refine wpAny_bind (wpAny_letGo ?_)
  refine extend_rev (A := A.in1) hh (hit.at fun o e => oth _ o e) (Heap.IsList.at hl fun o e => oth _ o e) hne hn hS2 hSi hSl fun s' acc c' hk he hS' hi => ?_
  obtain ⟨h', tk, rfl⟩ := he
  exact ⟨rfl, hQ h' tk acc c' (fun b o hb e => hk b o (Nat.ne_of_lt (Heap.lt_size e)) hb (oth b o e)) hS' hi⟩
end
/-- list(reversed(x)), x a list: a new list -/
def tListRev (K : PySem.W.Frag) (te : TE) : TE := fun σ H Q => te σ H fun v H1 => ∃ (a : Addr) (xs : List V), v = .ref a ∧ SqL K H1 a xs ∧ ∀ q, H1 q = none → Q (.ref q) (upd H1 q (.lst xs.reverse))
section
variable {X : Cx}
theorem pe_listRev0 {e : Expr} {te : TE} {p p2 pos pos2 : Pos} (hc : X.calm = true) (hg : Gl X "list") (hm : X.mg "list" = none) (hg2 : Gl X "reversed") (hm2 : X.mg "reversed" = none) (he : PE X e te)
    (hs : starEach [e] X.env = (false, eval e X.env) :: starEach [] X.env := by rfl)
    (hs2 : starEach [.Call (.Name "reversed" p2) [e] [] pos2] X.env = (false, eval (.Call (.Name "reversed" p2) [e] [] pos2) X.env) :: starEach [] X.env := by rfl) :
    PE X (.Call (.Name "list" p) [.Call (.Name "reversed" p2) [e] [] pos2] [] pos) (tListRev X.K te) := by
  refine ⟨fun pins s σ H Q I h => ?_⟩
  refine Call_ (ld_blt I hg hm boot_list (PyProof.Rows.callWith_type1 (args_cons (Call_ (ld_blt I hg2 hm2 PyProof.Rows.boot_reversed (PyProof.Rows.callWith_type1 (args_cons (thn (he.run pins s σ H _ I h) fun u s1 ⟨v, H1, I1, r1, q1⟩ => args_nil ?_) hs) hs rfl))) hs2) hs2 rfl))
  obtain ⟨a, xs, ev, hq, q⟩ := q1
  subst ev
  obtain rfl : u = Value.ref a := r1
  obtain ⟨its, rv, p', hz⟩ := I1.list hq
  refine call_reversed_list p'.isList (args_nil ?_)
  have k0 : ∀ b o, s1.heap.get? b = some o → (s1.heap.push (revObj a ((its.toArray.size : Int) - 1))).get? b = some o := fun b o e => Heap.get?_push_of_some _ e
  have I2 : Inv X pins σ H1 { s1 with heap := s1.heap.push (revObj a ((its.toArray.size : Int) - 1)) } := I1.kept (t' := s1.toks) k0
  obtain ⟨f0, f1, f2, f3, f4, f5⟩ := I1.fpOk (H' := H1) (b := s1.heap.objs.size) (Nat.le_refl _) (I1.hok.fresh (Nat.le_refl _))
  have hl := p'.isList
  obtain ⟨ol, hol, _⟩ := id hl
  have hne : a ≠ s1.heap.objs.size := Nat.ne_of_lt (Heap.lt_size hol)
  have hn : its.toArray.size ≤ sizeLine := by rw [List.size_toArray, ← rv.length]; exact hz
  refine call_list_rev (s := { s1 with heap := s1.heap.push (revObj a ((its.toArray.size : Int) - 1)) }) (I1.ok.hd hc) ⟨_, Heap.get?_push_size _ rfl, rfl, rfl⟩ (hl.push _) hne hn fun h' tk acc c' hk hS' hi => ?_
  refine ⟨.ref _, upd H1 _ (.lst xs.reverse), I1.laid (t' := tk) (fun b u e => hk b u (Nat.ne_of_lt (Heap.lt_size e)) (k0 b u e)) (by rw [Heap.size_push]; omega) (show ObjOk X.prog X.w _ _ _ (.lst xs.reverse) from ⟨by rw [List.length_reverse]; exact hz, acc.toList, c', RT.vals_rev rv hi, ?_⟩), rfl, q _ (I2.hok.fresh (Nat.le_refl _))⟩
  rw [Array.toArray_toList]
  exact hS'
theorem pe_listRev {K : PySem.W.Frag} {e : Expr} {te : TE} {p p2 pos pos2 : Pos} (hc : X.calm = true) (hg : Gl X "list") (hm : X.mg "list" = none) (hg2 : Gl X "reversed") (hm2 : X.mg "reversed" = none) (he : PE X e te)
    (hs : starEach [e] X.env = (false, eval e X.env) :: starEach [] X.env := by rfl)
    (hs2 : starEach [.Call (.Name "reversed" p2) [e] [] pos2] X.env = (false, eval (.Call (.Name "reversed" p2) [e] [] pos2) X.env) :: starEach [] X.env := by rfl) (hK : X.K = K := by rfl) :
    PE X (.Call (.Name "list" p) [.Call (.Name "reversed" p2) [e] [] pos2] [] pos) (tListRev K te) := hK ▸ pe_listRev0 hc hg hm hg2 hm2 he hs hs2
/-! ### list(a text) -/
theorem call_listS (hc : X.calm = true) : CallR X (.type "list") (fun xs H Q => ∃ z : Str, xs = [.str z] ∧ z.length ≤ sizeLine ∧ ∀ l, H l = none → Q (.ref l) (upd H l (.lst (z.cps.toList.map fun c => V.str ⟨#[c]⟩)))) := by
  intro pins s σ H xs us Q I r h
  obtain ⟨z, rfl, hz, q⟩ := h
  obtain ⟨u, rfl, t, rfl⟩ := vals1 r
  refine PySem.call_list_str (I.ok.hd hc) z t (fun h' tk acc' c' hk hS hi => ?_) hz
  refine ⟨.ref s.heap.objs.size, upd H s.heap.objs.size _, I.laid hk (Nat.le_refl _) (show ObjOk X.prog X.w _ _ _ (.lst (z.cps.toList.map fun c => V.str ⟨#[c]⟩)) from ⟨?_, acc'.toList, c', ?_, ?_⟩), rfl, q _ (I.hok.fresh (Nat.le_refl _))⟩
  · rw [List.length_map, Array.length_toList]; exact hz
  · have el : acc'.toList.length = acc'.size := by simp
    refine vals_of_at (by rw [List.length_map, Array.length_toList, el, hi.1]) fun j x w h1 h2 => ?_
    have h3 := hi.2 j w (by rw [← Array.getElem?_toList]; exact h2)
    rw [List.getElem?_map] at h1
    obtain ⟨c, hc1, rfl⟩ := Option.map_eq_some_iff.mp h1
    obtain ⟨c2, u, e1, rfl⟩ := h3
    rw [Array.getElem?_toList] at hc1
    rw [hc1] at e1
    cases e1
    exact ⟨u, rfl⟩
  · rw [Array.toArray_toList]; exact hS
end
end CB

set_option Elab.async false
set_option linter.all false
set_option maxRecDepth 100000
set_option maxHeartbeats 2000000
/-! zip of two sequences, each a list or a tuple, in any mix -/
namespace CB
open PySem PySem.Spec PyProof.Rows L2
inductive SK | L | T
def SqK (k : SK) (K : PySem.W.Frag) (H : Hp) (a : Addr) (xs : List V) : Prop := match k with | .L => SqL K H a xs | .T => SqT K H a xs
def IterK (k : SK) (h : Heap) (it a : Addr) (i : Nat) : Prop := match k with | .L => h.IsListIter it a i | .T => h.IsTupleIter it a i
def HasK (k : SK) (h : Heap) (a : Addr) (items : Array Value) : Prop := match k with | .L => h.IsList a items | .T => h.IsTuple a items
def iterObj (k : SK) (a : Addr) : Obj := match k with | .L => { cls := .type "list_iterator", data := .fields #[.ref a, .int 0 0] } | .T => { cls := .type "tuple_iterator", data := .fields #[.ref a, .int 0 0] }
section
variable {k : SK} {h h' : Heap} {it a : Addr} {i : Nat} {items : Array Value}
theorem IterK.at (x : IterK k h it a i) (e : ∀ o, h.get? it = some o → h'.get? it = some o) : IterK k h' it a i := by
  cases k with
  | L => exact Heap.IsListIter.at x e
  | T => exact Heap.IsTupleIter.at x e
theorem IterK.obj (x : IterK k h it a i) : ∃ o, h.get? it = some o ∧ ∀ v, o.data ≠ .cell v := by
  cases k with
  | L =>
    obtain ⟨o, e, _, d⟩ := x
    exact ⟨o, e, fun v q => by rw [d] at q; cases q⟩
  | T =>
    obtain ⟨o, e, _, d⟩ := x
    exact ⟨o, e, fun v q => by rw [d] at q; cases q⟩
theorem IterK.start (e : h.get? it = some (iterObj k a)) : IterK k h it a 0 := by
  cases k with
  | L => exact ⟨_, e, rfl, rfl⟩
  | T => exact ⟨_, e, rfl, rfl⟩
theorem HasK.lt (x : HasK k h a items) : a < h.objs.size := by
  cases k with
  | L => obtain ⟨o, e, _⟩ := x; exact Heap.lt_size e
  | T => obtain ⟨o, e, _⟩ := x; exact Heap.lt_size e
theorem drawsK {prog : Program} {w : World} {A : Around} (hh : A.handled = none) (k : SK) (it a : Addr) (hne : a ≠ it) (items : Array Value) :
    Draws prog w A it [it, a] items.size (fun i v => items[i]? = some v) (fun i h => IterK k h it a i ∧ HasK k h a items) := by
  cases k with
  | L => exact Draws.list hh it a hne items
  | T => exact Draws.tuple hh it a hne items
theorem beginsK (k : SK) (a : Addr) (items : Array Value) : Begins (.ref a) (iterObj k a) fun h => HasK k h a items := by
  cases k with
  | L => exact begins_list a items
  | T => exact begins_tuple a items
theorem InvK {X : Cx} {pins : List (Addr × Obj)} {σ : L2.St} {H : Hp} {s : Shared} {xs : List V} (I : Inv X pins σ H s) (hq : SqK k X.K H a xs) : ∃ its : List Value, Vals xs its ∧ HasK k s.heap a its.toArray ∧ ∀ ys, SqK k X.K H a ys → ys = xs := by
  cases k with
  | L =>
    obtain ⟨its, rv, p, _⟩ := I.list hq
    exact ⟨its, rv, p.isList, fun ys hy => I.list_inj hy hq⟩
  | T =>
    obtain ⟨its, rv, p, _⟩ := I.tuple hq
    exact ⟨its, rv, p, fun ys hy => I.tuple_inj hy hq⟩
end
def ItzK (k1 k2 : SK) (K : PySem.W.Frag) (a b : Addr) : It :=
  ⟨fun i H => ∃ (xs ys : List V) (x y : V), SqK k1 K H a xs ∧ SqK k2 K H b ys ∧ xs[i]? = some x ∧ ys[i]? = some y,
    fun i H v H' => ∃ T x y, v = .ref T ∧ H T = none ∧ H' = upd H T (.tup [x, y]) ∧ (∀ xs, SqK k1 K H a xs → xs[i]? = some x) ∧ ∀ ys, SqK k2 K H b ys → ys[i]? = some y,
    fun i H => ∃ xs ys : List V, SqK k1 K H a xs ∧ SqK k2 K H b ys ∧ i ≤ xs.length ∧ i ≤ ys.length ∧ (i = xs.length ∨ i = ys.length)⟩
theorem turn_zipK {P : Program} {w : World} {K : PySem.W.Frag} {elts : List Expr} {kk : Nat} {tpos : Pos} {k1 k2 : SK} {a b z TI TO i1 i2 : Addr} (S : ZipSep2 z TI TO i1 i2 [i1, a] [i2, b]) (na : a ≠ i1) (nb : b ≠ i2) :
    Turn P w K (.Tuple elts kk tpos) (ItzK k1 k2 K a b) [z, TI, TO, i1, i2] z (fun i h => IsZip h z TI TO .none ∧ IsTupOf2 h TI (.ref i1) (.ref i2) ∧ (∃ x y, IsTupOf2 h TO x y) ∧ IterK k1 h i1 a i ∧ IterK k2 h i2 b i) where
  mem := by simp
  obj := fun i h st c hc => by
    obtain ⟨hz, hTI, ⟨x, y, hTO⟩, h1, h2⟩ := st
    simp only [List.mem_cons, List.not_mem_nil, or_false] at hc
    rcases hc with rfl | rfl | rfl | rfl | rfl
    · exact ⟨_, hz, fun v q => nomatch q⟩
    · exact ⟨_, hTI, fun v q => nomatch q⟩
    · exact ⟨_, hTO, fun v q => nomatch q⟩
    · exact h1.obj
    · exact h2.obj
  keep := fun i h h' st k => by
    obtain ⟨hz, hTI, ⟨x, y, hTO⟩, h1, h2⟩ := st
    exact ⟨k z (by simp) _ hz, k TI (by simp) _ hTI, ⟨x, y, k TO (by simp) _ hTO⟩, h1.at fun o q => k i1 (by simp) o q, h2.at fun o q => k i2 (by simp) o q⟩
  item := by
    intro X hP hw hK hc i pins s σ H E I hf st hg
    subst hP hw hK
    obtain ⟨hz, hTI, ⟨x0, y0, hTO⟩, h1, h2⟩ := st
    obtain ⟨xs, ys, x, y, hqx, hqy, hx, hy⟩ := hg
    obtain ⟨its, rv, p, inj1⟩ := InvK I hqx
    obtain ⟨its2, rv2, p2, inj2⟩ := InvK I hqy
    obtain ⟨u, hu, ru⟩ := rv.get hx
    obtain ⟨u2, hu2, ru2⟩ := rv2.get hy
    have hA : X.A.in1.handled = none := I.ok.hd hc
    have D1 := drawsK (prog := X.prog) (w := X.w) hA k1 i1 a na its.toArray
    have D2 := drawsK (prog := X.prog) (w := X.w) hA k2 i2 b nb its2.toArray
    have hzl : z < s.heap.objs.size := Heap.lt_size hz
    have lt1 : i < its.toArray.size := by
      have := (List.getElem?_eq_some_iff.mp hu).1
      simpa using this
    have lt2 : i < its2.toArray.size := by
      have := (List.getElem?_eq_some_iff.mp hu2).1
      simpa using this
    refine wpAny_pyNext_zipD2_item S D1 D2 hz hTI hTO ⟨h1, p⟩ ⟨h2, p2⟩ lt1 lt2 fun x1 x2 h' tk y1 y2 z' TO' st1 st2 hT hsz hk => ?_
    have e1 : x1 = u := by
      have q : its.toArray[i]? = some u := by simpa using hu
      rw [q] at y1
      exact (Option.some.inj y1).symm
    have e2 : x2 = u2 := by
      have q : its2.toArray[i]? = some u2 := by simpa using hu2
      rw [q] at y2
      exact (Option.some.inj y2).symm
    subst e1 e2
    refine ⟨_, rfl, wpAny_letOwnedTupleGo_zip (s := { s with heap := h', toks := tk }) z' fun h'' z'' sb => ?_⟩
    have hT2 : h''.get? s.heap.objs.size = some { cls := .type "tuple", data := .seq #[x1, x2] } := (sb.2 _ (Nat.ne_of_gt hzl)).trans hT
    have new : ObjOk X.prog X.w (upd H s.heap.objs.size (.tup [x, y])) h'' s.heap.objs.size (.tup [x, y]) :=
      ⟨by show 2 ≤ sizeLine; decide, [x1, x2], .cons ru (.cons ru2 .nil), ⟨_, hT2, rfl, _, rfl⟩⟩
    have I1 : Inv X pins σ (upd H s.heap.objs.size (.tup [x, y])) { s with heap := h'', toks := tk } :=
      I.turnedNew (t' := tk) (ch := [z, TI, TO, i1, i2]) (fun c o hb q => by
        simp only [List.mem_cons, List.not_mem_nil, or_false, not_or] at hb
        exact (sb.2 c hb.1).trans (hk c o hb.1 hb.2.2.1 hb.2.2.2.1 hb.2.2.2.2 q)) hf (Nat.le_refl _) new
    refine ⟨.ref s.heap.objs.size, _, I1, rfl, ⟨_, x, y, rfl, I.hok.fresh (Nat.le_refl _), rfl, fun l hl => by rw [inj1 l hl]; exact hx, fun l hl => by rw [inj2 l hl]; exact hy⟩, ⟨z'', ?_, ⟨x1, x2, ?_⟩, ?_, ?_⟩, fun c hcm => ?_⟩
    · exact (sb.2 _ S.TIz).trans (hk _ _ S.TIz S.TITO S.TIi1 S.TIi2 hTI)
    · exact (sb.2 _ S.TOz).trans TO'
    · exact st1.1.at fun o q => (sb.2 _ S.zi1.symm).trans q
    · exact st2.1.at fun o q => (sb.2 _ S.zi2.symm).trans q
    · have hlt : c < s.heap.objs.size := by
        simp only [List.mem_cons, List.not_mem_nil, or_false] at hcm
        rcases hcm with rfl | rfl | rfl | rfl | rfl
        · exact hzl
        · exact Heap.lt_size hTI
        · exact Heap.lt_size hTO
        · obtain ⟨_, e1, _⟩ := h1.obj; exact Heap.lt_size e1
        · obtain ⟨_, e2, _⟩ := h2.obj; exact Heap.lt_size e2
      rw [upd_ne (Nat.ne_of_lt hlt)]
      exact (hf c hcm).1
  done := by
    intro X hP hw hK hc i pins s σ H E I hf st hg
    subst hP hw hK
    obtain ⟨hz, hTI, ⟨x0, y0, hTO⟩, h1, h2⟩ := st
    obtain ⟨xs, ys, hqx, hqy, le1, le2, hend⟩ := hg
    obtain ⟨its, rv, p, inj1⟩ := InvK I hqx
    obtain ⟨its2, rv2, p2, inj2⟩ := InvK I hqy
    have l1 := rv.length
    have l2 := rv2.length
    have hA : X.A.in1.handled = none := I.ok.hd hc
    refine wpAny_pyNext_zipD2_end S (drawsK (prog := X.prog) (w := X.w) hA k1 i1 a na its.toArray) (drawsK (prog := X.prog) (w := X.w) hA k2 i2 b nb its2.toArray) hz hTI hTO ⟨h1, p⟩ ⟨h2, p2⟩ (by rw [List.size_toArray]; omega) (by rw [List.size_toArray]; omega) (by rw [List.size_toArray, List.size_toArray]; omega) fun h' tk hk => ?_
    refine ⟨rfl, I.turnedL (t' := tk) (ch := [z, TI, TO, i1, i2]) (fun c o hb q => ?_) hf⟩
    simp only [List.mem_cons, List.not_mem_nil, or_false, not_or] at hb
    exact hk c o hb.1 hb.2.2.1 hb.2.2.2.1 hb.2.2.2.2 q
  self := fun A i s Q E st h => wpAny_pyIter_zip st.1 h
def iZipK (k1 k2 : SK) (K : PySem.W.Frag) (ta : TA) : TI := fun σ H R => ta σ H fun vs H1 => ∃ a b xs ys, vs = [.ref a, .ref b] ∧ SqK k1 K H1 a xs ∧ SqK k2 K H1 b ys ∧ R (ItzK k1 k2 K a b) H1
theorem pi_zipM (k1 k2 : SK) {X : Cx} {K : PySem.W.Frag} {e e2 : Expr} {ta : TA} {p pos tpos : Pos} {elts : List Expr} {kk : Nat} (hg : Gl X "zip") (hm : X.mg "zip" = none) (ha : PA X [e, e2] ta)
    (hs : starEach [e, e2] X.env = (false, eval e X.env) :: starEach [e2] X.env := by rfl) (hpl : (backTo pos (starEach [e2] X.env)).any (·.1) = false := by rfl) (hK : X.K = K := by rfl) :
    PI X (.Tuple elts kk tpos) (.Call (.Name "zip" p) [e, e2] [] pos) (iZipK k1 k2 K ta) := by
  subst hK
  refine ⟨fun pins s σ H R I h => ?_⟩
  refine Call_ (ld_blt I hg hm PyProof.Rows.boot_zip (PyProof.Rows.callWith_type1 (thn (ha.run pos pins s σ H _ I h) fun us s1 hus => ?_) hs hpl))
  obtain ⟨vs, H1, I1, r1, a, b, xs, ys, rfl, hqx, hqy, q⟩ := hus
  obtain ⟨u1, u2, rfl, ra, rb⟩ := vals2 r1
  obtain rfl : u1 = Value.ref a := ra
  obtain rfl : u2 = Value.ref b := rb
  obtain ⟨its, rv, p1, _⟩ := InvK I1 hqx
  obtain ⟨its2, rv2, p2, _⟩ := InvK I1 hqy
  refine zip_begins2 (beginsK k1 a its.toArray) (beginsK k2 b its2.toArray) p1 p2 fun h' hz hTI hTO h1 h2 hsz hk => wpAny_pyIter_zip hz ?_
  have I2 : Inv X pins σ H1 { s1 with heap := h' } := I1.kept (t' := s1.toks) hk
  have la : a < s1.heap.objs.size := p1.lt
  have lb : b < s1.heap.objs.size := p2.lt
  have S : ZipSep2 (s1.heap.objs.size + 4) (s1.heap.objs.size + 2) (s1.heap.objs.size + 3) s1.heap.objs.size (s1.heap.objs.size + 1) (s1.heap.objs.size :: [a]) ((s1.heap.objs.size + 1) :: [b]) :=
    zip_sep2 (fun c hc => by rw [List.mem_singleton.mp hc]; exact la) (fun c hc => by rw [List.mem_singleton.mp hc]; exact lb)
  refine ⟨s1.heap.objs.size + 4, [s1.heap.objs.size + 4, s1.heap.objs.size + 2, s1.heap.objs.size + 3, s1.heap.objs.size, s1.heap.objs.size + 1], _, _, H1, rfl, I2, turn_zipK S (Nat.ne_of_lt la) (Nat.ne_of_lt (Nat.lt_succ_of_lt lb)), ⟨hz, hTI, ⟨_, _, hTO⟩, IterK.start h1, IterK.start h2⟩, fun c hc => ?_, q⟩
  have hle : s1.heap.objs.size ≤ c := by
    simp only [List.mem_cons, List.not_mem_nil, or_false] at hc
    rcases hc with rfl | rfl | rfl | rfl | rfl
    · exact Nat.le_add_right _ _
    · exact Nat.le_add_right _ _
    · exact Nat.le_add_right _ _
    · exact Nat.le_refl _
    · exact Nat.le_add_right _ _
  have := I1.fpOk (H' := H1) hle (I1.hok.fresh hle)
  exact this
theorem walk_zipM {k1 k2 : SK} {K : PySem.W.Frag} {a b : Addr} {xs ys : List V} {n : Nat} (hn : n = min xs.length ys.length) :
    Walk (ItzK k1 k2 K a b) n (fun H => SqK k1 K H a xs ∧ SqK k2 K H b ys) (YPair (fun i => xs[i]?) (fun i => ys[i]?)) := by
  subst hn
  refine ⟨fun i _ hi q => ?_, fun _ q => ⟨xs, ys, q.1, q.2, by omega, by omega, by omega⟩, fun i H v H' _ q y => ?_⟩
  · have h1 : i < xs.length := by omega
    have h2 : i < ys.length := by omega
    exact ⟨xs, ys, xs[i], ys[i], q.1, q.2, by simp [h1], by simp [h2]⟩
  · obtain ⟨T, x, z, h1, h2, h3, h4, h5⟩ := y
    exact ⟨T, x, z, h1, h2, h3, h4 xs q.1, h5 ys q.2⟩
/-! ### xs.extend(t), t a list or a tuple -/
section
variable {prog : Program} {w : World} {A : Around} {E : Value → Shared → Prop} {s : Shared}
theorem call_extend_seq {k : SK} {l b : Addr} {its its2 : Array Value} {n : Nat} {Q : Value → Shared → Prop} (hl : s.heap.get? l = some { cls := .type "list", data := .seq its n }) (hb : HasK k s.heap b its2) (hz : its.size + its2.size ≤ sizeLine)
    (h : Q .none { s with heap := s.heap.update l (Obj.mapSeq (· ++ its2)) }) : wpAny (model prog w) A (call (.builtin "list.extend") [.ref l, .ref b]) Q E s := by
  have hT : s.TypeIs (.ref l) "list" := ⟨_, hl, rfl⟩
  have hlong : Builtin.List.listTooLong (its.size + its2.size) = false := notLongL hz
  obtain ⟨ob, T, hob, hcb, hTT, nb, hdb⟩ : ∃ (ob : Obj) (T : String), s.heap.get? b = some ob ∧ ob.cls = .type T ∧ (T = "list" ∨ T = "tuple") ∧ ∃ nb, ob.data = .seq its2 nb := by
    cases k with
    | L => obtain ⟨o, e1, e2, n2, e3⟩ := hb; exact ⟨o, "list", e1, e2, .inl rfl, n2, e3⟩
    | T => obtain ⟨o, e1, e2, n2, e3⟩ := hb; exact ⟨o, "tuple", e1, e2, .inr rfl, n2, e3⟩
  refine wpAny_call_entry F.slot_list_extend hT F.entry_list_extend ?_ (F.args_list_extend_2 _ _)
  show wpAny _ _ (Builtin.List.listExtendWith (.ref l) (.ref b) .none) _ _ s
  unfold Builtin.List.listExtendWith
  refine wpAny_bind (wpAny_typeOf (T := T) ⟨ob, hob, hcb⟩ ?_)
  have hc : (Builtin.List.listSameRef (.ref l) (.ref b) || Value.type T == Value.type "list" || Value.type T == Value.type "tuple") = true := by
    rcases hTT with rfl | rfl
    · simp
    · simp
  rw [if_pos hc]
  refine wpAny_bind (wpAny_listItems hob hdb ?_)
  refine wpAny_bind (wpAny_listItems hl rfl ?_)
  rw [hlong, Bool.and_false]
  refine wpAny_bind ?_
  show wpAny _ _ (updateSeq l (· ++ its2)) _ _ _
  refine wpAny_updateSeq hl rfl (wpAny_pure ⟨_, rfl, h⟩) (by omega) (by rw [Array.size_append]; omega)
end
section
variable {X : Cx}
def rExtK (k : SK) (K : PySem.W.Frag) : V → List V → Hp → VK → Prop := fun x vs H Q => ∃ l b xs zs, x = .ref l ∧ vs = [.ref b] ∧ H l = some (.lst xs) ∧ SqK k K H b zs ∧ xs.length + zs.length ≤ sizeLine ∧ Q .non (upd H l (.lst (xs ++ zs)))
theorem mt_extK (k : SK) {K : PySem.W.Frag} (hK : X.K = K := by rfl) : MtR X "list.extend" (rExtK k K) := by
  subst hK
  intro pins s σ H x vs v us Q I rx rv h
  obtain ⟨l, b, xs, zs, rfl, rfl, hH, hB, hz, q⟩ := h
  cases rx
  obtain ⟨u, rfl, ru⟩ := rv.one
  cases ru
  obtain ⟨z, its, n, r, hl, e⟩ := I.lstM hH
  obtain ⟨its2, r2, h2, _⟩ := InvK I hB
  have l2 := r2.length
  refine call_extend_seq e h2 (by rw [List.size_toArray, List.size_toArray]; omega) ?_
  refine ⟨.non, _, I.lset (its' := its ++ its2) hH e (by simp) (r.append r2) ?_, rfl, q⟩
  rw [List.length_append]
  omega
end
end CB

set_option Elab.async false
set_option linter.all false
set_option maxRecDepth 100000
set_option maxHeartbeats 2000000
namespace CB
open PySem PySem.Spec PyProof.Rows L2

abbrev Ex := Evl.Ex
/-! ### what is frozen (F) within what stands (H) -/
structure Gr (S : Addr → Prop) (F H F' H' : Hp) : Prop where
  fz : Ex F F'
  sub : Ex F' H'
  kp : ∀ a o, ¬ S a → H a = some o → H' a = some o
  al : ∀ a, H a ≠ none → H' a ≠ none
  nf : ∀ a, F a = none → H a ≠ none → F' a = none
abbrev NoS : Addr → Prop := fun _ => False
abbrev DL (d l : Addr) : Addr → Prop := fun a => a = d ∨ a = l
section
variable {S : Addr → Prop} {F H F1 H1 F2 H2 : Hp} {p : Addr} {o x : HO}
theorem Gr.refl (h : Ex F H) : Gr S F H F H := ⟨fun _ _ e => e, h, fun _ _ _ e => e, fun _ e => e, fun _ e _ => e⟩
theorem Gr.trans (g : Gr S F H F1 H1) (k : Gr S F1 H1 F2 H2) : Gr S F H F2 H2 :=
  ⟨g.fz.trans k.fz, k.sub, fun a o n e => k.kp a o n (g.kp a o n e), fun a e => k.al a (g.al a e), fun a e n => k.nf a (g.nf a e n) (g.al a n)⟩
theorem Gr.mono {S' : Addr → Prop} (g : Gr S F H F1 H1) (h : ∀ a, S a → S' a) : Gr S' F H F1 H1 :=
  ⟨g.fz, g.sub, fun a o n e => g.kp a o (fun z => n (h a z)) e, g.al, g.nf⟩
theorem Gr.pure (g : Gr NoS F H F1 H1) : Gr S F H F1 H1 := g.mono fun _ h => h.elim
theorem Gr.ex (g : Gr NoS F H F1 H1) : Ex H H1 := fun a o e => g.kp a o (fun h => h) e
theorem sub_none (h : Ex F H) (e : H p = none) : F p = none := Evl.fresh_back h e
/-- a new object, frozen at once -/
theorem Gr.new (g : Gr S F H F1 H1) (hp : H1 p = none) : Gr S F H (upd F1 p o) (upd H1 p o) := by
  have hf : F1 p = none := sub_none g.sub hp
  refine ⟨g.fz.trans (Evl.Ex.new hf), fun a u e => ?_, fun a u n e => ?_, fun a e => ?_, fun a e n => ?_⟩
  · by_cases h : a = p
    · subst h; rw [upd_same] at e ⊢; exact e
    · rw [upd_ne h] at e ⊢; exact g.sub a u e
  · have := g.kp a u n e
    rw [upd_ne (ne_of_none this hp)]; exact this
  · have := g.al a e
    by_cases h : a = p
    · subst h; exact absurd hp this
    · rw [upd_ne h]; exact this
  · have h : a ≠ p := fun h => g.al a n (h ▸ hp)
    rw [upd_ne h]; exact g.nf a e n
/-- a new object that may still change -/
theorem Gr.newm (g : Gr S F H F1 H1) (hp : H1 p = none) : Gr S F H F1 (upd H1 p o) := by
  refine ⟨g.fz, fun a u e => ?_, fun a u n e => ?_, fun a e => ?_, g.nf⟩
  · have := g.sub a u e
    rw [upd_ne (ne_of_none this hp)]; exact this
  · have := g.kp a u n e
    rw [upd_ne (ne_of_none this hp)]; exact this
  · have := g.al a e
    by_cases h : a = p
    · subst h; exact absurd hp this
    · rw [upd_ne h]; exact this
/-- an object of ours (new since the start, not frozen) changes -/
theorem Gr.mut (g : Gr S F H F1 H1) (hp : H p = none) (hf : F1 p = none) : Gr S F H F1 (upd H1 p o) := by
  refine ⟨g.fz, fun a u e => ?_, fun a u n e => ?_, fun a e => ?_, g.nf⟩
  · rw [upd_ne (ne_of_none e hf)]; exact g.sub a u e
  · rw [upd_ne (ne_of_none e hp)]; exact g.kp a u n e
  · by_cases h : a = p
    · subst h; rw [upd_same]; exact fun z => by cases z
    · rw [upd_ne h]; exact g.al a e
/-- an object of ours is frozen -/
theorem Gr.freeze (g : Gr S F H F1 H1) (hp : H p = none) (hf : F1 p = none) (ho : H1 p = some o) : Gr S F H (upd F1 p o) H1 := by
  refine ⟨g.fz.trans (Evl.Ex.new hf), fun a u e => ?_, g.kp, g.al, fun a e n => ?_⟩
  · by_cases h : a = p
    · subst h; rw [upd_same] at e; cases e; exact ho
    · rw [upd_ne h] at e; exact g.sub a u e
  · have h : a ≠ p := fun h => n (h ▸ hp)
    rw [upd_ne h]; exact g.nf a e n
/-- what is not frozen and stands stays so -/
theorem Gr.keepm (g : Gr S F H F1 H1) (hs : ¬ S p) (hf : F p = none) (ho : H p = some o) : F1 p = none ∧ H1 p = some o :=
  ⟨g.nf p hf (by rw [ho]; exact fun z => by cases z), g.kp p o hs ho⟩
theorem Gr.none (g : Gr S F H F1 H1) (h : H1 p = none) : H p = none := by
  cases e : H p with
  | none => rfl
  | some o => exact absurd h (g.al p (by rw [e]; exact fun z => by cases z))
theorem Gr.exs (g : Gr S F H F1 H1) : Ex F H1 := g.fz.trans g.sub
end
end CB
namespace L2
open PySem PySem.Spec PyProof.Rows CB
section
variable {K : PySem.W.Frag} {F F' H : Hp} {a : Addr} {xs : List V}
theorem ex_L (e : Ex F F') (h : SqL K F a xs) : SqL K F' a xs := Evl.ex_l e h
theorem ex_T (e : Ex F F') (h : SqT K F a xs) : SqT K F' a xs := Evl.ex_t e h
mutual
theorem Dp.ex (e : Ex F F') : ∀ {v : V} {d : PyData}, Dp K F v d → Dp K F' v d
  | _, _, .non => .non
  | _, _, .bl b => .bl b
  | _, _, .int i => .int i
  | _, _, .str x => .str x
  | _, _, .lst h hs => .lst (ex_L e h) (DpAll.ex e hs)
  | _, _, .tup h hs => .tup (ex_T e h) (DpAll.ex e hs)
theorem DpAll.ex (e : Ex F F') : ∀ {vs : List V} {ds : List PyData}, DpAll K F vs ds → DpAll K F' vs ds
  | _, _, .nil => .nil
  | _, _, .cons h hs => .cons (Dp.ex e h) (DpAll.ex e hs)
end
theorem DpAll.length : ∀ {vs : List V} {ds : List PyData}, DpAll K F vs ds → vs.length = ds.length
  | _, _, .nil => rfl
  | _, _, .cons _ h => by rw [List.length_cons, List.length_cons, DpAll.length h]
theorem DpAll.get : ∀ {vs : List V} {ds : List PyData} {i : Nat} {v : V}, DpAll K F vs ds → vs[i]? = some v → ∃ d, ds[i]? = some d ∧ Dp K F v d
  | _, _, _, _, .nil, e => by simp at e
  | _, _, 0, _, .cons h _, e => by simp at e; subst e; exact ⟨_, rfl, h⟩
  | _, _, i + 1, _, .cons _ h, e => by
    obtain ⟨d, e1, e2⟩ := DpAll.get (i := i) h (by simpa using e)
    exact ⟨d, by simpa using e1, e2⟩
theorem DpAll.get' : ∀ {vs : List V} {ds : List PyData} {i : Nat} {d : PyData}, DpAll K F vs ds → ds[i]? = some d → ∃ v, vs[i]? = some v ∧ Dp K F v d
  | _, _, _, _, .nil, e => by simp at e
  | _, _, 0, _, .cons h _, e => by simp at e; subst e; exact ⟨_, rfl, h⟩
  | _, _, i + 1, _, .cons _ h, e => by
    obtain ⟨d, e1, e2⟩ := DpAll.get' (i := i) h (by simpa using e)
    exact ⟨d, by simpa using e1, e2⟩
theorem DpAll.append : ∀ {vs ws : List V} {ds es : List PyData}, DpAll K F vs ds → DpAll K F ws es → DpAll K F (vs ++ ws) (ds ++ es)
  | _, _, _, _, .nil, h => h
  | _, _, _, _, .cons h hs, k => .cons h (DpAll.append hs k)
theorem DpAll.snoc {vs : List V} {v : V} {ds : List PyData} {d : PyData} (h : DpAll K F vs ds) (k : Dp K F v d) : DpAll K F (vs ++ [v]) (ds ++ [d]) := h.append (.cons k .nil)
theorem DpAll.ints : ∀ ns : List Int, DpAll K F (ns.map V.int) (ns.map PyData.int)
  | [] => .nil
  | n :: r => .cons (.int n) (DpAll.ints r)
theorem DpAll.strs : ∀ ns : List Str, DpAll K F (ns.map V.str) (ns.map PyData.str)
  | [] => .nil
  | n :: r => .cons (.str n) (DpAll.strs r)
theorem ints_of : ∀ {vs : List V} {ns : List Int}, DpAll K F vs (ns.map PyData.int) → vs = ns.map V.int
  | _, [], h => by cases h; rfl
  | _, n :: r, h => by
    cases h with
    | cons h1 h2 => cases h1; rw [ints_of h2]; rfl
end
/-- tuples of ints, tuples of those -/
abbrev ti (ns : List Int) : PyData := .tuple (ns.map PyData.int)
abbrev li (ns : List Int) : PyData := .list (ns.map PyData.int)
abbrev tti (r : List (List Int)) : PyData := .tuple (r.map ti)
abbrev lti (r : List (List Int)) : PyData := .list (r.map ti)
section
variable {K : PySem.W.Frag} {F F' H : Hp} {v : V}
theorem Dp.tup_inv {ds : List PyData} (h : Dp K F v (.tuple ds)) : ∃ a xs, v = .ref a ∧ SqT K F a xs ∧ DpAll K F xs ds := by
  cases h with
  | tup h1 h2 => exact ⟨_, _, rfl, h1, h2⟩
theorem Dp.lst_inv {ds : List PyData} (h : Dp K F v (.list ds)) : ∃ a xs, v = .ref a ∧ SqL K F a xs ∧ DpAll K F xs ds := by
  cases h with
  | lst h1 h2 => exact ⟨_, _, rfl, h1, h2⟩
theorem Dp.ti_inv {ns : List Int} (h : Dp K F v (ti ns)) : ∃ a, v = .ref a ∧ SqT K F a (ns.map V.int) := by
  obtain ⟨a, xs, e, h1, h2⟩ := h.tup_inv
  rw [ints_of h2] at h1
  exact ⟨a, e, h1⟩
theorem Dp.li_inv {ns : List Int} (h : Dp K F v (li ns)) : ∃ a, v = .ref a ∧ SqL K F a (ns.map V.int) := by
  obtain ⟨a, xs, e, h1, h2⟩ := h.lst_inv
  rw [ints_of h2] at h1
  exact ⟨a, e, h1⟩
theorem Dp.of_ti {a : Addr} {ns : List Int} (h : SqT K F a (ns.map V.int)) : Dp K F (.ref a) (ti ns) := .tup h (DpAll.ints ns)
theorem Dp.of_li {a : Addr} {ns : List Int} (h : SqL K F a (ns.map V.int)) : Dp K F (.ref a) (li ns) := .lst h (DpAll.ints ns)
theorem Dp.int_inv {i : Int} (h : Dp K F v (.int i)) : v = .int i := by cases h; rfl
theorem Dp.str_inv {i : Str} (h : Dp K F v (.str i)) : v = .str i := by cases h; rfl
end

end L2
namespace CB
open PySem PySem.Spec PyProof.Rows L2
/-! ### data that may be compared -/
theorem canLay_strs : ∀ l : List Str, (∀ x ∈ l, PyData.strOk x = true) → PyData.canLayAll0 (l.map PyData.str) = true
  | [], _ => rfl
  | x :: r, h => by
    show (PyData.strOk x && PyData.canLayAll0 (r.map PyData.str)) = true
    rw [h x List.mem_cons_self, canLay_strs r fun y hy => h y (List.mem_cons_of_mem _ hy)]
    rfl
theorem canLay_ints : ∀ l : List Int, PyData.canLayAll0 (l.map PyData.int) = true
  | [] => rfl
  | x :: r => by
    show (true && PyData.canLayAll0 (r.map PyData.int)) = true
    rw [canLay_ints r]
    rfl
theorem depth_strs : ∀ l : List Str, PyData.depthAll (l.map PyData.str) = 0
  | [] => rfl
  | x :: r => by
    show max 0 (PyData.depthAll (r.map PyData.str)) = 0
    rw [depth_strs r]
    rfl
theorem shaped_strs (l : List Str) (h : ∀ x ∈ l, PyData.strOk x = true) : SeqAt.shaped (.list (l.map PyData.str)) = true := by
  unfold SeqAt.shaped
  rw [Bool.and_eq_true, decide_eq_true_eq]
  refine ⟨canLay_strs l h, ?_⟩
  show PyData.depthAll (l.map PyData.str) + 1 ≤ 64
  rw [depth_strs]
  decide
/-! ### the drawing of numbers -/
abbrev kSeed : Key := Sum.inr "seed"
abbrev kNumber : Key := Sum.inr "number"
abbrev kLeft : Key := Sum.inr "left"
def dealD (s n : Int) (l : Addr) : List (Key × V) := [(kSeed, .int s), (kNumber, .int n), (kLeft, .ref l)]
theorem deal_seed {s n : Int} {l : Addr} : valV (dealD s n l) kSeed = some (.int s) := by
  exact valV_pos rfl
structure Deal (H : Hp) (d l : Addr) (s n : Int) (ls : List Int) : Prop where
  hd : H d = some (.dK (dealD s n l))
  hl : H l = some (.lst (ls.map V.int))
  s0 : 0 ≤ s
  s1 : s < 2147483648
  n0 : 0 ≤ n
  pos : ∀ x ∈ ls, 0 < x
  len : ls.length ≤ 63
def IsDeal (H : Hp) (d l : Addr) : Prop := ∃ s n ls, Deal H d l s n ls
theorem Deal.ne {H : Hp} {d l : Addr} {s n : Int} {ls : List Int} (h : Deal H d l s n ls) : d ≠ l := ne_of h.hd h.hl (by intro z; cases z)
theorem IsDeal.keep {H H' : Hp} {d l : Addr} (h : IsDeal H d l) (k : ∀ o, H d = some o → H' d = some o) (k2 : ∀ o, H l = some o → H' l = some o) : IsDeal H' d l := by
  obtain ⟨s, n, ls, h⟩ := h
  exact ⟨s, n, ls, k _ h.hd, k2 _ h.hl, h.s0, h.s1, h.n0, h.pos, h.len⟩
theorem ne_sn : ¬ kSeed = kNumber := by decide +kernel
theorem ne_sl : ¬ kSeed = kLeft := by decide +kernel
theorem ne_nl : ¬ kNumber = kLeft := by decide +kernel
theorem deal_number {s n : Int} {l : Addr} : valV (dealD s n l) kNumber = some (.int n) := by
  unfold dealD
  rw [valV_neg ne_sn, valV_pos rfl]
theorem deal_left {s n : Int} {l : Addr} : valV (dealD s n l) kLeft = some (.ref l) := by
  unfold dealD
  rw [valV_neg ne_sl, valV_neg ne_nl, valV_pos rfl]
theorem put_number {s n m : Int} {l : Addr} : putK (dealD s n l) kNumber (.int m) = dealD s m l := by
  unfold putK dealD
  rw [if_pos (by rw [List.any_cons, List.any_cons, decide_eq_true rfl]; simp)]
  simp only [List.map_cons, List.map_nil, if_neg ne_sn, if_true, if_neg (fun h => ne_nl (Eq.symm h))]
theorem put_seed {s n m : Int} {l : Addr} : putK (dealD s n l) kSeed (.int m) = dealD m n l := by
  unfold putK dealD
  rw [if_pos (by rw [List.any_cons, decide_eq_true rfl]; simp)]
  simp only [List.map_cons, List.map_nil, if_true, if_neg (fun h => ne_sn (Eq.symm h)), if_neg (fun h => ne_sl (Eq.symm h))]
theorem merge_deal {s n : Int} {l : Addr} : mergeK [] (dealD s n l) = dealD s n l := by
  have a1 : ([] : List (Key × V)).any (fun kv => decide (kv.1 = kSeed)) = false := rfl
  have a2 : ([(kSeed, V.int s)] : List (Key × V)).any (fun kv => decide (kv.1 = kNumber)) = false := by simp only [List.any_cons, List.any_nil, decide_eq_false ne_sn, Bool.or_false]
  have a3 : ([(kSeed, V.int s), (kNumber, V.int n)] : List (Key × V)).any (fun kv => decide (kv.1 = kLeft)) = false := by simp only [List.any_cons, List.any_nil, decide_eq_false ne_sl, decide_eq_false ne_nl, Bool.or_false]
  have e1 : putK ([] : List (Key × V)) kSeed (.int s) = [(kSeed, .int s)] := by unfold putK; rw [a1]; rfl
  have e2 : putK [(kSeed, V.int s)] kNumber (.int n) = [(kSeed, .int s), (kNumber, .int n)] := by unfold putK; rw [a2]; rfl
  have e3 : putK [(kSeed, V.int s), (kNumber, V.int n)] kLeft (.ref l) = dealD s n l := by unfold putK; rw [a3]; rfl
  show putK (putK (putK [] kSeed (.int s)) kNumber (.int n)) kLeft (.ref l) = _
  rw [e1, e2, e3]
section
variable {H : Hp} {d l : Addr} {s n : Int} {ls : List Int}
theorem Deal.g_seed (h : Deal H d l s n ls) : DGet H d (.str "seed") (some (.int s)) := by
  have e := DGet.k (k := kSeed) h.hd
  rw [deal_seed] at e
  exact e
theorem Deal.g_number (h : Deal H d l s n ls) : DGet H d (.str "number") (some (.int n)) := by
  have e := DGet.k (k := kNumber) h.hd
  rw [deal_number] at e
  exact e
theorem Deal.g_left (h : Deal H d l s n ls) : DGet H d (.str "left") (some (.ref l)) := by
  have e := DGet.k (k := kLeft) h.hd
  rw [deal_left] at e
  exact e
theorem Deal.p_number (h : Deal H d l s n ls) (m : Int) : DPut H d (.str "number") (.int m) (upd H d (.dK (dealD s m l))) := by
  have e := DPut.k (k := kNumber) (v := .int m) h.hd (by show 3 < sizeLine; decide)
  rw [put_number] at e
  exact e
theorem Deal.p_seed (h : Deal H d l s n ls) (m : Int) : DPut H d (.str "seed") (.int m) (upd H d (.dK (dealD m n l))) := by
  have e := DPut.k (k := kSeed) (v := .int m) h.hd (by show 3 < sizeLine; decide)
  rw [put_seed] at e
  exact e
theorem Deal.pop (h : Deal H d l s n ls) (hn : ls ≠ []) : Deal (upd H l (.lst (ls.map V.int).dropLast)) d l s n ls.dropLast :=
  ⟨by rw [upd_ne h.ne]; exact h.hd, by rw [upd_same, List.map_dropLast], h.s0, h.s1, h.n0, fun x hx => h.pos x (List.dropLast_subset _ hx), by have := h.len; rw [List.length_dropLast]; omega⟩
theorem Deal.last (h : Deal H d l s n ls) (hn : ls ≠ []) : ∃ y, 0 < y ∧ (ls.map V.int)[(ls.map V.int).length - 1]? = some (.int y) := by
  refine ⟨ls.getLast hn, h.pos _ (List.getLast_mem hn), ?_⟩
  rw [List.length_map, List.getElem?_map, ← List.getLast?_eq_getElem?, List.getLast?_eq_some_getLast hn]
  rfl
theorem Deal.with_number (h : Deal H d l s n ls) {m : Int} (m0 : 0 ≤ m) : Deal (upd H d (.dK (dealD s m l))) d l s m ls :=
  ⟨upd_same, by rw [upd_ne h.ne.symm]; exact h.hl, h.s0, h.s1, m0, h.pos, h.len⟩
theorem Deal.with_seed (h : Deal H d l s n ls) {m : Int} (m0 : 0 ≤ m) (m1 : m < 2147483648) : Deal (upd H d (.dK (dealD m n l))) d l m n ls :=
  ⟨upd_same, by rw [upd_ne h.ne.symm]; exact h.hl, m0, m1, h.n0, h.pos, h.len⟩
end
theorem fmod_in (x k : Int) (hk : 0 < k) : 0 ≤ x.fmod k ∧ x.fmod k < k := by
  rw [Int.fmod_eq_emod_of_nonneg x (by omega)]
  exact ⟨Int.emod_nonneg _ (by omega), Int.emod_lt_of_pos _ hk⟩
theorem cut_ints (ns : List Int) (lo hi : Option Int) : ∃ ms : List Int, cutV (ns.map V.int) lo hi = ms.map V.int ∧ ms.length ≤ ns.length :=
  ⟨(ns.drop (HT.sIx ns.length 0 lo)).take (HT.sIx ns.length ns.length hi - HT.sIx ns.length 0 lo), by
    unfold cutV
    rw [List.length_map, ← List.map_drop, ← List.map_take], by
    rw [List.length_take, List.length_drop]
    omega⟩
/-- what stands beside the deal stays -/
def Kp (d l : Addr) (H H' : Hp) : Prop := ∀ b o, b ≠ d → b ≠ l → H b = some o → H' b = some o
section
variable {d l p : Addr} {H H1 H2 : Hp} {o : HO}
theorem Kp.refl : Kp d l H H := fun _ _ _ _ e => e
theorem Kp.trans (a : Kp d l H H1) (b : Kp d l H1 H2) : Kp d l H H2 := fun x o h1 h2 e => b x o h1 h2 (a x o h1 h2 e)
theorem Kp.of_ex (a : Ex H H1) : Kp d l H H1 := fun x o _ _ e => a x o e
theorem Kp.of_draw (a : ∀ b, b ≠ d → b ≠ l → H1 b = H b) : Kp d l H H1 := fun x o h1 h2 e => (a x h1 h2).trans e
theorem Kp.mut (a : Kp d l H H1) (h : H p = none) : Kp d l H (upd H1 p o) := fun x u h1 h2 e => by
  rw [upd_ne (ne_of_none e h)]
  exact a x u h1 h2 e
theorem IsDeal.ex (h : IsDeal H d l) (e : Ex H H1) : IsDeal H1 d l := h.keep (fun o => e d o) (fun o => e l o)
theorem IsDeal.upd (h : IsDeal H d l) (hd : p ≠ d) (hl : p ≠ l) : IsDeal (L2.upd H p o) d l := h.keep (fun o e => by rw [upd_ne hd.symm]; exact e) (fun o e => by rw [upd_ne hl.symm]; exact e)
theorem IsDeal.nd (h : IsDeal H d l) (e : H p = none) : p ≠ d ∧ p ≠ l := by
  obtain ⟨s, n, ls, h⟩ := h
  exact ⟨(ne_of_none h.hd e).symm, (ne_of_none h.hl e).symm⟩
/-- an object other than the deal's two -/
theorem IsDeal.ne_str (h : IsDeal H d l) {y : Str} {ys : List V} (e : H p = some (.lst (.str y :: ys))) : p ≠ d ∧ p ≠ l := by
  obtain ⟨s, n, ls, h⟩ := h
  refine ⟨fun z => ?_, fun z => ?_⟩
  · rw [z, h.hd] at e; cases e
  · rw [z, h.hl] at e
    cases ls with
    | nil => cases e
    | cons a r => cases e
end
theorem at_in {xs : List V} {r : Int} (h0 : 0 ≤ r) (h1 : r < xs.length) : ∃ v, atI xs r = some v ∧ v ∈ xs := by
  have h2 : r.toNat < xs.length := by omega
  have e : xs[r.toNat]? = some xs[r.toNat] := List.getElem?_eq_getElem h2
  have e2 := atI_nat e
  rw [Int.toNat_of_nonneg h0] at e2
  exact ⟨_, e2, List.getElem_mem h2⟩
theorem at_inA {xs : List Nat} {r : Int} (h0 : 0 ≤ r) (h1 : r < xs.length) : ∃ v, atI xs r = some v ∧ v ∈ xs := by
  have h2 : r.toNat < xs.length := by omega
  have e : xs[r.toNat]? = some xs[r.toNat] := List.getElem?_eq_getElem h2
  have e2 := atI_nat e
  rw [Int.toNat_of_nonneg h0] at e2
  exact ⟨_, e2, List.getElem_mem h2⟩
theorem cut_strs (ns : List Str) (lo hi : Option Int) : ∃ ms : List Str, cutV (ns.map V.str) lo hi = ms.map V.str ∧ ms.length ≤ ns.length ∧ ∀ y ∈ ms, y ∈ ns :=
  ⟨(ns.drop (HT.sIx ns.length 0 lo)).take (HT.sIx ns.length ns.length hi - HT.sIx ns.length 0 lo), by
    unfold cutV
    rw [List.length_map, ← List.map_drop, ← List.map_take], by
    rw [List.length_take, List.length_drop]
    omega, fun y h => List.mem_of_mem_drop (List.mem_of_mem_take h)⟩
/-- the promise of the deal that is made of the script -/
def sp_deal (K : PySem.W.Frag) : Sp := fun vs H Q _ => ∃ (a : Addr) (ns : List Int) (b : Int), vs = [.ref a, .int b] ∧ SqL K H a (ns.map V.int) ∧ ns.length ≤ 63 ∧ 0 ≤ b ∧ b ≤ 63 ∧
  ∀ (d l : Addr) (H' : Hp), Ex H H' → H d = none → H l = none → IsDeal H' d l → Q (.ref d) H'
/-- the promise of a draw: some number below many -/
def sp_draw : Sp := fun vs H Q _ => ∃ (d l : Addr) (m : Int), vs = [.ref d, .int m] ∧ IsDeal H d l ∧ 0 < m ∧ m < 1073741824 ∧
  ∀ (r : Int) (H' : Hp), 0 ≤ r → r < m → IsDeal H' d l → Kp d l H H' → Q (.int r) H'
end CB

set_option Elab.async false
set_option linter.all false
set_option maxRecDepth 100000
set_option maxHeartbeats 2000000
namespace CB
open PySem PySem.Spec PyProof.Rows L2

/-! ### defs that are promised where no repr is under way (A.guards = some []) -/
structure FnG (P : Program) (w : World) (K : PySem.W.Frag) (mg : Str → Option Value) (base : Heap) (k : Nat) (f : Addr) (fd : FuncData) (ps : List Str) (sp : Sp) : Prop where
  len : ∀ vs H Q E, sp vs H Q E → vs.length = ps.length
  run : ∀ (A : Around) (outer : List Env) (s : Shared) (H : Hp) (args : Args) (us : List Value) (vs : List V) (Q : VK) (E : XK), A.guards = some [] → Room k A → Env0 P w K mg base A outer s H →
    BindsTo s fd args (ps.zip us) → Vals vs us → sp vs H Q E → codeAny (model P w) A (.call (.ref f) args) (CR CX0 outer P w H s Q E) s
section
variable {P : Program} {w : World} {K : PySem.W.Frag} {mg : Str → Option Value} {base : Heap}
theorem okG {x qual : Str} {st : Stmt} {f : Addr} {fd : FuncData} {N ps : List Str} {k : Nat} {sp : Sp} (F : Fun K x qual st f fd) (S : FnScope N ps (defScope st)) (len : ∀ vs H Q E, sp vs H Q E → vs.length = ps.length)
    (hbody : ∀ (cdv : Value) (A : Around) (outer : List Env) (s : Shared) (H : Hp) (vs : List V) (Q : VK) (E : XK), (A.deeper (envOfC qual (defScope st) s.heap.objs.size f cdv)).guards = some [] → Room k (A.deeper (envOfC qual (defScope st) s.heap.objs.size f cdv)) → sp vs H Q E →
      ∃ t, PSs (cxOf CX0 P w K mg base N qual (defScope st) f cdv A outer s H E).nox (defBody st) t ∧ t { nx := fun _ H' => Q .non H', rt := Q } (start N vs) H) : FnG P w K mg base (k + 1) f fd ps sp := by
  obtain ⟨oc, od, kV, doc, pm, an, cdv, ct, osl, rfl, lk, hcd⟩ := F.ex
  refine ⟨len, fun A outer s H args us vs Q E hg hr e0 hb r hsp => ?_⟩
  have keepBase : ∀ b o, base.get? b = some o → s.heap.get? b = some o := fun b o e => (e0.bs b o e).1
  have hkinds : ∀ y ∈ ps.zip us, (defScope st).names.lookup y.1 = some .local ∨ ((defScope st).names.lookup y.1 = some .cell ∧ ((cellsFrom (s.heap.objs.size + 1) (defScope st).names []).lookup y.1).isSome = true) := by
    rintro ⟨n, v⟩ hy
    exact (S.par n (List.of_mem_zip hy).1).elim .inl fun q => .inr ⟨q, PySem.W.cellsFrom_some _ _ _ (.inl q)⟩
  have KX := e0.mod.kin.keeps keepBase
  refine codeAny_call_function hr.depth (KX _ _ lk) rfl S.co S.gen rfl (PySem.W.codeRec_of KX hcd) (hb _ _ _ _ (wpAny_newFunctionEnv_cells S.kind hkinds ?_))
  rintro env rfl s1 x
  obtain ⟨t, ht, hq⟩ := hbody cdv A outer s H vs Q E hg (hr.deeper _) hsp
  have I0 := inv_start (CX := CX0) (E := E) S hr.hd e0 (len _ _ _ _ hsp) r x
  refine ⟨(e0.mod.nolimit.keeps keepBase).keeps x.toInCall.keep, codeAny_func (wpAny_mono (ht.nox.run [] s1 (start N vs) H _ I0 hq) (fun fl s' hs => ?_) fun e s' hs => hs)⟩
  cases fl with
  | ret u =>
    obtain ⟨v, σ', H', J, rv, q⟩ := hs
    exact ⟨v, H', J.os, J.bare, J.base, J.hok, rv, q⟩
  | next =>
    obtain ⟨σ', H', J, q⟩ := hs
    exact ⟨V.non, H', J.os, J.bare, J.base, J.hok, rfl, q⟩
  | brk => exact hs.elim fun _ h => h.elim fun _ h => (show False from h.2).elim
  | cont => exact hs.elim fun _ h => h.elim fun _ h => (show False from h.2).elim
end
section
variable {X : Cx} {k : Nat} {f : Addr} {fd : FuncData} {ps : List Str} {sp : Sp} {x : Str} {p pos : Pos} {e : Expr} {es : List Expr} {t : TA} {E : XK}
theorem pe_callG (F : FnG X.prog X.w X.K X.mg X.base k f fd ps sp) (hgd : X.A.guards = some []) (hr : Room k X.A) (hg : Gl X x) (hm : X.mg x = some (.ref f)) (hk : PySem.W.keepIn X.K (.ref f) = true) (hb : Binds X.K fd ps [])
    (ha : PA X (e :: es) t) (hdb : (x == ("__debug__" : Str)) = false := by decide) (he : starEach (e :: es) X.env = (false, eval e X.env) :: starEach es X.env := by rfl) (hpl : (backTo pos (starEach es X.env)).any (·.1) = false := by rfl) :
    PE X (.Call (.Name x p) (e :: es) [] pos) (tCall sp [] E t) := by
  refine ⟨fun pins s σ H Q I h => wpAny_Call_Name_kw (ld_glob I hg hm (PySem.W.callWith_K (h₀ := X.base) I.ok.mod.kin hk (thn (ha.run pos pins s σ H _ I h) fun us s1 hus => ?_) he hpl) hdb)⟩
  obtain ⟨vs, H1, I1, r, q⟩ := hus
  refine ⟨I1.kIn, ?_⟩
  have r2 : Vals (vs ++ []) us := by rw [List.append_nil]; exact r
  have hl : (us ++ []).length = ps.length := by rw [List.append_nil, ← r2.length]; exact F.len _ _ _ _ q
  have bnd := hb s1 us I1.kIn hl
  rw [List.append_nil] at bnd
  refine wpAny_call (codeAny_mono (F.run X.A X.stack s1 H1 ⟨us, []⟩ us (vs ++ []) Q E hgd hr I1.env0 bnd r2 q) fun r s' hq => ?_)
  cases r with
  | error e => exact False.elim hq
  | ok fl =>
    cases fl with
    | ret u => exact I1.after hq
    | next => exact False.elim hq
    | brk => exact False.elim hq
    | cont => exact False.elim hq
end
/-! ### the law's own call, where no repr is under way -/
theorem lawG {P : Program} {w : World} {K : PySem.W.Frag} {mg mb : Str → Option Value} {k : Nat} {fa a : Addr} {fd : FuncData} {x : Str} {sp : Sp} {s1 : Shared} {vs : List Value} {ns : List Int}
    (KX : K.In s1.heap) (hns : s1.heap.Ns mainGlobals mg) (hb : s1.heap.Ns builtinsNs mb) (hbb : ∀ x : Str, x ≠ "__name__" → mb x = bootBuiltins x) (hlim : s1.heap.NoLimit) (hg : s1.gens = #[])
    (ha : s1.heap.get? a = some { cls := .type "list", data := .seq vs.toArray }) (hi : IntsAre vs ns) (hl : ns.length ≤ sizeLine) (hr : Room k callerA)
    (F : ∀ base : Heap, K.In base → base.Ns mainGlobals mg → FnG P w K mg base k fa fd [x] sp) (hbind : ∀ (s : Shared) (u : Value), BindsTo s fd ⟨[u], []⟩ [(x, u)])
    (hsp : ∀ H : Hp, SqL K H a (ns.map V.int) → sp [.ref a] H (fun v _ => v = .bl true) fun _ _ _ => False) :
    codeAny (model P w) callerA (.call (.ref fa) ⟨[.ref a], []⟩) (fun r s' => r = .ok (.ret (.bool true)) ∧ OldK s1.heap s'.heap ∧ s'.os = s1.os ∧ AllBare s'.gens) s1 := by
  have rel := vals_ints hi
  -- H tracks nothing, or the script alone, locked
  suffices go : ∀ H : Hp, (∀ b u, H b = some u → b = a ∧ K.lookup a = none ∧ ∃ o xs, u = .frz o (.lst xs)) → SqL K H a (ns.map V.int) → HOk P w H s1.heap →
      codeAny (model P w) callerA (.call (.ref fa) ⟨[.ref a], []⟩) (fun r s' => r = .ok (.ret (.bool true)) ∧ OldK s1.heap s'.heap ∧ s'.os = s1.os ∧ AllBare s'.gens) s1 by
    cases hk : K.lookup a with
    | none =>
      refine go (upd (fun _ => none) a (.frz { cls := .type "list", data := .seq vs.toArray } (.lst (ns.map V.int)))) (fun b u e => ?_) (.inl (.inr ⟨_, upd_same⟩)) (fun b u e => ?_)
      · by_cases h : b = a
        · subst h
          rw [upd_same] at e
          cases e
          exact ⟨rfl, hk, _, _, rfl⟩
        · rw [upd_ne h] at e
          cases e
      · by_cases h : b = a
        · subst h
          rw [upd_same] at e
          cases e
          exact ⟨ha, by rw [List.length_map]; exact hl, vs, _, rel, ha⟩
        · rw [upd_ne h] at e
          cases e
    | some o =>
      have e := KX a o hk
      rw [ha] at e
      cases e
      exact go (fun _ => none) (fun b u e => by cases e) (.inr ⟨_, vs.toArray, _, hk, rfl, rfl, rfl, by rw [List.size_toArray, hi.length]; exact hl, by simpa using rel⟩) (fun b u e => by cases e)
  intro H hH hS hok
  have apart : ∀ {b : Addr} {o : Obj}, s1.heap.get? b = some o → (∃ es ep, o.data = .dict es ep) → H b = none := fun {b o} e hd => by
    cases q : H b with
    | none => rfl
    | some u =>
      obtain ⟨rfl, _⟩ := hH b u q
      rw [ha] at e
      cases e
      obtain ⟨es, ep, z⟩ := hd
      cases z
  have ns_base : ∀ {b : Addr} {m : Str → Option Value}, s1.heap.Ns b m → (hidT s1.heap H).Ns b m := fun {b m} h => by
    obtain ⟨o, es, ep, e, d, r⟩ := h
    exact ⟨o, es, ep, hidT_get e (apart e ⟨es, ep, d⟩), d, r⟩
  have kin : K.In (hidT s1.heap H) := fun b o e => hidT_get (KX b o e) (by
    cases q : H b with
    | none => rfl
    | some u =>
      obtain ⟨rfl, h2, _⟩ := hH b u q
      rw [h2] at e
      cases e)
  have limit : (hidT s1.heap H).NoLimit := by
    obtain ⟨mc, h1, h2⟩ := hlim
    exact ⟨mc, ns_base h1, h2⟩
  have e0 : Env0 P w K mg (hidT s1.heap H) callerA [] s1 H :=
    ⟨rfl, ⟨kin, ns_base hns, ⟨mb, ns_base hb, hbb⟩, limit⟩, fun b o e => of_hidT e, Nat.le_of_eq (hidT_size _ _), trivial, fun b hb => (List.not_mem_nil hb).elim, hok, .of_eq hg⟩
  refine codeAny_mono ((F _ kin (ns_base hns)).run callerA [] s1 H ⟨[.ref a], []⟩ [.ref a] [.ref a] _ _ rfl hr e0 (hbind s1 (.ref a)) (.cons rfl .nil) (hsp H hS)) fun r s' h => ?_
  cases r with
  | error e => exact False.elim h
  | ok fl =>
    cases fl with
    | ret u =>
      obtain ⟨v, H', os, bare, un, hok', ru, rfl⟩ := h
      obtain rfl : u = Value.bool true := ru
      refine ⟨rfl, OldK.of_keep fun b o e => ?_, os, bare⟩
      cases q : H b with
      | none => exact un.keep b o e q (fun z => (List.not_mem_nil z).elim) (by simp)
      | some u =>
        obtain ⟨rfl, _, ob, xs, rfl⟩ := hH b u q
        have h1 := (hok b _ q).1
        rw [e] at h1
        cases h1
        exact (hok' b _ (un.frzs b _ _ q)).1
    | next => exact False.elim h
    | brk => exact False.elim h
    | cont => exact False.elim h
/-- the goal that k_head leaves, from the law's promise -/
theorem walkG {l : PySem.W.OpenLaw} {n k : Nat} {q : Program} {loose : List Str} {XP : (Str → Option Value) → Heap → Prop} {YP : World → Heap → Prop} {d : DefRec} {K : Params → PySem.W.Frag} {sp : World → Sp} {x : Str}
    (hn : l.most = some n) (hn2 : n ≤ sizeLine) (hdf : d.params.defaults = []) (hr : Room k callerA) (hY : ∀ (w : World) (h : Heap), YP w h → (K w.params).In h)
    (F : ∀ (w : World) (mg : Str → Option Value) (fa : Addr) (h : Heap), (K w.params).In h → h.Ns mainGlobals mg → mg d.name = some (.ref fa) →
      ∃ fd : FuncData, (∀ (s : Shared) (u : Value), BindsTo s fd ⟨[u], []⟩ [(x, u)]) ∧ ∀ base : Heap, (K w.params).In base → base.Ns mainGlobals mg → FnG l.prog w (K w.params) mg base k fa fd [x] (sp w))
    (hsp : ∀ (w : World) (H : Hp) (a : Addr) (ns : List Int), ns.length ≤ n → SqL (K w.params) H a (ns.map V.int) → sp w [.ref a] H (fun v _ => v = .bl true) fun _ _ _ => False) :
    PySem.W.WalkO q loose XP YP l.row.toRowW d [] (fun f vs => PySem.call f vs) :=
  Att.attach_call hn hdf fun w s0 s1 mg mb fa o pm cd doc a vs ns G Y ho hd hcd hmg hobj hints hlen hg => by
    have KX := hY w _ Y
    obtain ⟨fd, hb, hF⟩ := F w mg fa _ KX G.T.g hmg
    exact lawG KX G.T.g G.T.b G.T.builtins G.T.nolimit hg hobj hints (Nat.le_trans hlen hn2) hr hF hb fun H hS => hsp w H a ns hlen hS
/-! ### repr -/
section
variable {X : Cx}
/-- repr(x), x a list or a tuple: what is shown -/
theorem call_reprD {K : PySem.W.Frag} (hgd : X.A.guards = some []) (hu : X.A.units + 66 < cLine) (hK : X.K = K := by rfl) : CallR X (.builtin "repr") (fun xs H Q => ∃ v d, xs = [v] ∧ Dp K H v d ∧ (∃ a, v = .ref a) ∧ SeqAt.shaped d = true ∧ d.showable = true ∧ d.shown.length ≤ sizeLine ∧ Q (.str d.shown) H) := by
  subst hK
  intro pins s σ H xs us Q I r h
  obtain ⟨v, d, rfl, hd, ⟨a, rfl⟩, sd, sw, hz, q⟩ := h
  obtain ⟨u, rfl, ru⟩ := vals1 r
  obtain rfl : u = Value.ref a := ru
  obtain ⟨as, rd⟩ := Dp.reads I d _ _ hd rfl
  have dp := SeqAt.depth_of_shaped sd
  refine repr_of_reads' rd sw (PyData.noDict_hsm (PyData.hasDict_of_canLay d (SeqAt.canLay_of_shaped sd))) hgd (by omega) (fun _ _ e => e) (fun h' u tk hk => ?_) hz
  exact ⟨.str d.shown, H, I.kept (t' := tk) hk, ⟨u, rfl⟩, q⟩
/-! ### sum(a tuple of ints) -/
theorem cr_sumT {K : PySem.W.Frag} (hc : X.calm = true) (hK : X.K = K := by rfl) : CallR X (.builtin "sum") (fun vs H Q => ∃ (a : Addr) (ns : List Int), vs = [V.ref a] ∧ SqT K H a (ns.map V.int) ∧ Q (.int ns.sum) H) := by
  subst hK
  intro pins s σ H vs us Q I r h
  obtain ⟨a, ns, rfl, hs, q⟩ := h
  obtain ⟨its, rv, hl, _⟩ := I.tuple hs
  rw [Vals.ref1 r]
  have hi := rv.ints
  obtain ⟨xs, e⟩ := hi.allInts.items
  have hn : numsOf (intItems xs).toList = ns := by rw [← e]; exact hi.numsOf
  rw [nums_intItems] at hn
  rw [e] at hl
  have hT : s.heap.IsTuple a (intItems xs) := hl
  have hlt : a < s.heap.objs.size := by obtain ⟨_, e, _⟩ := hT; exact Heap.lt_size e
  refine call_sum_walkG (wpAny_pyIter_tuple hT ⟨_, [_, a], [_], _, _, _, numAt xs, rfl, Walks.tuple (A := X.A.in1) (I.ok.hd hc) _ a (Nat.ne_of_lt hlt) (intItems xs), ⟨⟨_, Heap.get?_push_size _ rfl, rfl, rfl⟩, hT.push _⟩, fun b hb => ?_, (fun _ _ => intItems_at), fun h' tk t' hk => ?_⟩)
  · show b < (s.heap.push _).objs.size
    rw [Heap.size_push]
    rcases List.mem_cons.mp hb with rfl | hb
    · exact Nat.lt_succ_self _
    · rw [List.mem_singleton.mp hb]
      exact Nat.lt_succ_of_lt hlt
  · have e2 : preSum (numAt xs) (intItems xs).size = ns.sum := by
      have e3 : (intItems xs).size = xs.size := by simp [intItems]
      rw [e3, preSum_eq, List.take_of_length_le (by simp), hn]
    rw [e2]
    refine ⟨.int _, H, I.kept (t' := tk) fun b o eb => hk b o (fun hm => ?_) (Heap.get?_push_of_some _ eb), ⟨_, rfl⟩, q⟩
    rw [List.mem_singleton.mp hm] at eb
    exact absurd (Heap.lt_size eb) (Nat.lt_irrefl _)
/-! ### sorted(a list of data) -/
abbrev dSort (ds : List PyData) : List PyData := ds.mergeSort (PySem.W.dataLe false id)
theorem DpAll.pairs {K : PySem.W.Frag} {H : Hp} : ∀ {xs : List V} {ds : List PyData}, DpAll K H xs ds → ∀ p ∈ xs.zip ds, Dp K H p.1 p.2
  | _, _, .nil, p, hp => by cases hp
  | _, _, .cons h hs, p, hp => by
    rcases List.mem_cons.mp hp with rfl | hp
    · exact h
    · exact DpAll.pairs hs p hp
theorem dpAll_of {K : PySem.W.Frag} {H : Hp} : ∀ (l : List (V × PyData)), (∀ p ∈ l, Dp K H p.1 p.2) → DpAll K H (l.map Prod.fst) (l.map Prod.snd)
  | [], _ => .nil
  | p :: r, h => .cons (h p List.mem_cons_self) (dpAll_of r fun q hq => h q (List.mem_cons_of_mem _ hq))
theorem each_zip {H : Hp} {pins : List (Addr × Obj)} {σ : L2.St} {s : Shared} (I : Inv X pins σ H s) : ∀ {xs : List V} {us : List Value} {ds : List PyData}, Vals xs us → DpAll X.K H xs ds →
    PySem.W.EachIs (fun (u : Value) (p : V × PyData) => RelV p.1 u) us (xs.zip ds) ∧ PySem.W.EachIs (fun (u : Value) (p : V × PyData) => ∃ as, Reads s.heap u p.2 as) us (xs.zip ds)
  | _, _, _, .nil, .nil => ⟨.nil, .nil⟩
  | _, _, _, .cons r rs, .cons h hs => ⟨.cons r (each_zip I rs hs).1, .cons (Dp.reads I _ _ _ h r) (each_zip I rs hs).2⟩
theorem vals_each : ∀ {us : List Value} {l : List (V × PyData)}, PySem.W.EachIs (fun (u : Value) (p : V × PyData) => RelV p.1 u) us l → Vals (l.map Prod.fst) us
  | _, _, .nil => .nil
  | _, _, .cons r rs => .cons r (vals_each rs)
theorem zip_snd {xs : List V} {ds : List PyData} (h : xs.length = ds.length) : (xs.zip ds).map Prod.snd = ds := List.map_snd_zip (by omega)
theorem cr_sortD {K : PySem.W.Frag} (hu : X.A.units + 64 < cLine) (hK : X.K = K := by rfl) : CallR X (.builtin "sorted") (fun vs H Q => ∃ (a : Addr) (xs : List V) (ds : List PyData), vs = [V.ref a] ∧ SqL K H a xs ∧ DpAll K H xs ds ∧ PySem.W.AllAlike ds ∧ PySem.W.Sortable ds ∧ (∀ d ∈ ds, d.depth ≤ 60) ∧
    ∀ ys p, H p = none → (∀ F, DpAll K F xs ds → DpAll K F ys (dSort ds)) → (∀ y ∈ ys, y ∈ xs) → Q (.ref p) (upd H p (.lst ys))) := by
  subst hK
  intro pins s σ H vs us Q I r h
  obtain ⟨a, xs, ds, rfl, hs, hd, hal, hsr, hdp, q⟩ := h
  obtain ⟨its, rv, hl, hz⟩ := I.list hs
  rw [Vals.ref1 r]
  have hlen := DpAll.length hd
  obtain ⟨e1, e2⟩ := each_zip I rv hd
  have esnd := zip_snd hlen
  refine PySem.W.sorted_data (enc := Prod.snd) hl.isList e1 e2 (by rw [esnd]; exact hal) (by rw [esnd]; exact hsr) (by rw [List.length_zip]; omega) (fun p hp => ?_) fun out hout he => ?_
  · have := hdp p.2 (by rw [← esnd]; exact List.mem_map_of_mem hp)
    omega
  · obtain ⟨e, hat⟩ := sortedAll_at s.heap its out.toArray
    have hmem : ∀ p ∈ (xs.zip ds).mergeSort (PySem.W.dataLe false Prod.snd), p ∈ xs.zip ds := fun p hp => (List.mergeSort_perm _ _).mem_iff.mp hp
    have hys : ∀ F, DpAll X.K F xs ds → DpAll X.K F (((xs.zip ds).mergeSort (PySem.W.dataLe false Prod.snd)).map Prod.fst) (dSort ds) := fun F hF => by
      have h1 := dpAll_of (K := X.K) (H := F) ((xs.zip ds).mergeSort (PySem.W.dataLe false Prod.snd)) fun p hp => DpAll.pairs hF p (hmem p hp)
      have h2 : ((xs.zip ds).mergeSort (PySem.W.dataLe false Prod.snd)).map Prod.snd = dSort ds := by
        rw [PySem.W.sort_maps (r := PySem.W.dataLe false Prod.snd) (s := PySem.W.dataLe false id) Prod.snd (fun _ _ _ _ => rfl), esnd]
      rw [h2] at h1
      exact h1
    have hv := vals_each he
    refine ⟨.ref (s.heap.objs.size + 1), upd H (s.heap.objs.size + 1) (.lst _), I.laid (t' := s.toks) (fun b u eb => sortedAll_old eb) (by omega) (show ObjOk X.prog X.w _ _ _ (.lst _) from ⟨?_, out, e, hv, ?_⟩), rfl, q _ _ (I.hok.fresh (by omega)) hys fun y hy => ?_⟩
    · rw [List.length_map, List.length_mergeSort, List.length_zip]
      omega
    · exact hat
    · obtain ⟨p, hp, rfl⟩ := List.mem_map.mp hy
      exact (List.of_mem_zip (hmem p hp)).1
end
end CB

set_option Elab.async false
set_option linter.all false
set_option maxRecDepth 100000
set_option maxHeartbeats 2000000
namespace CB
open PySem PySem.Spec PyProof.Rows L2

/-! ### rows as data: they may be compared and shown -/
abbrev Sml (x : Int) : Prop := x.natAbs.log2 < 1920
theorem sml_of {x : Int} {k : Nat} (h : x.natAbs < 2 ^ k) (hk : 0 < k) (h2 : k ≤ 1920) : Sml x := Nat.lt_of_lt_of_le (PySem.Flt.log2_lt_of hk h) h2
theorem canLay_tis : ∀ r : List (List Int), PyData.canLayAll0 (r.map ti) = true
  | [] => rfl
  | p :: r => by
    show (PyData.canLayAll0 (p.map PyData.int) && PyData.canLayAll0 (r.map ti)) = true
    rw [canLay_ints, canLay_tis r]
    rfl
theorem depth_ints' (p : List Int) : PyData.depthAll (p.map PyData.int) = 0 := PySem.W.depth_ints p
theorem depth_tis : ∀ r : List (List Int), PyData.depthAll (r.map ti) ≤ 1
  | [] => Nat.zero_le _
  | p :: r => by
    show max (PyData.depthAll (p.map PyData.int) + 1) (PyData.depthAll (r.map ti)) ≤ 1
    rw [depth_ints']
    have := depth_tis r
    omega
theorem ti_shaped (p : List Int) : SeqAt.shaped (ti p) = true := by
  unfold SeqAt.shaped
  rw [Bool.and_eq_true, decide_eq_true_eq]
  refine ⟨canLay_ints p, ?_⟩
  show PyData.depthAll (p.map PyData.int) + 1 ≤ 64
  rw [depth_ints']
  decide
theorem li_shaped (p : List Int) : SeqAt.shaped (li p) = true := by
  unfold SeqAt.shaped
  rw [Bool.and_eq_true, decide_eq_true_eq]
  refine ⟨canLay_ints p, ?_⟩
  show PyData.depthAll (p.map PyData.int) + 1 ≤ 64
  rw [depth_ints']
  decide
theorem lti_shaped (r : List (List Int)) : SeqAt.shaped (lti r) = true := by
  unfold SeqAt.shaped
  rw [Bool.and_eq_true, decide_eq_true_eq]
  refine ⟨canLay_tis r, ?_⟩
  show PyData.depthAll (r.map ti) + 1 ≤ 64
  have := depth_tis r
  omega
theorem tti_shaped (r : List (List Int)) : SeqAt.shaped (tti r) = true := by
  unfold SeqAt.shaped
  rw [Bool.and_eq_true, decide_eq_true_eq]
  refine ⟨canLay_tis r, ?_⟩
  show PyData.depthAll (r.map ti) + 1 ≤ 64
  have := depth_tis r
  omega
theorem ints_showable (p : List Int) (h : ∀ x ∈ p, Sml x) : PyData.showableAll (p.map PyData.int) = true := PyData.showableAll_ints p h
theorem ti_showable {p : List Int} (h : ∀ x ∈ p, Sml x) : (ti p).showable = true := ints_showable p h
theorem li_showable {p : List Int} (h : ∀ x ∈ p, Sml x) : (li p).showable = true := ints_showable p h
theorem tis_showable (r : List (List Int)) (h : ∀ p ∈ r, ∀ x ∈ p, Sml x) : PyData.showableAll (r.map ti) = true := showableAll_of fun d hd => by
  obtain ⟨p, hp, rfl⟩ := List.mem_map.mp hd
  exact ti_showable (h p hp)
theorem lti_showable {r : List (List Int)} (h : ∀ p ∈ r, ∀ x ∈ p, Sml x) : (lti r).showable = true := tis_showable r h
theorem tti_showable {r : List (List Int)} (h : ∀ p ∈ r, ∀ x ∈ p, Sml x) : (tti r).showable = true := tis_showable r h
theorem int_shown {x : Int} (h : Sml x) : (PyData.shown (.int x)).length ≤ 1921 := PyProof.Rows.int_text_len_1921 h
theorem ints_shown : ∀ (p : List Int), (∀ x ∈ p, Sml x) → ((PyData.shownAll (p.map PyData.int)).map (·.length)).sum ≤ 1921 * p.length
  | [], _ => Nat.zero_le _
  | x :: p, h => by
    have h1 := int_shown (h x List.mem_cons_self)
    have h2 := ints_shown p fun y hy => h y (List.mem_cons_of_mem _ hy)
    show (PyData.shown (.int x)).length + ((PyData.shownAll (p.map PyData.int)).map (·.length)).sum ≤ 1921 * (p.length + 1)
    omega
theorem ti_shown {p : List Int} (h : ∀ x ∈ p, Sml x) : (ti p).shown.length ≤ 1923 * p.length + 3 := by
  have h1 := tupleText_len_le (PyData.shownAll (p.map PyData.int))
  have h2 := ints_shown p h
  have h3 : (PyData.shownAll (p.map PyData.int)).length = p.length := by rw [PyData.shownAll_length, List.length_map]
  show (tupleText (PyData.shownAll (p.map PyData.int))).length ≤ _
  omega
theorem li_shown {p : List Int} (h : ∀ x ∈ p, Sml x) : (li p).shown.length ≤ 1923 * p.length + 3 := by
  have h1 := listText_len_le (PyData.shownAll (p.map PyData.int))
  have h2 := ints_shown p h
  have h3 : (PyData.shownAll (p.map PyData.int)).length = p.length := by rw [PyData.shownAll_length, List.length_map]
  show (listText (PyData.shownAll (p.map PyData.int))).length ≤ _
  omega
theorem tis_shown {m : Nat} : ∀ (r : List (List Int)), (∀ p ∈ r, p.length ≤ m ∧ ∀ x ∈ p, Sml x) → ((PyData.shownAll (r.map ti)).map (·.length)).sum ≤ (1923 * m + 3) * r.length
  | [], _ => Nat.zero_le _
  | p :: r, h => by
    obtain ⟨l1, l2⟩ := h p List.mem_cons_self
    have h1 := ti_shown l2
    have h2 := tis_shown r fun y hy => h y (List.mem_cons_of_mem _ hy)
    have h3 : 1923 * p.length ≤ 1923 * m := Nat.mul_le_mul_left _ l1
    show (ti p).shown.length + ((PyData.shownAll (r.map ti)).map (·.length)).sum ≤ (1923 * m + 3) * (r.length + 1)
    rw [Nat.mul_succ]
    omega
theorem lti_shown {m : Nat} {r : List (List Int)} (h : ∀ p ∈ r, p.length ≤ m ∧ ∀ x ∈ p, Sml x) : (lti r).shown.length ≤ (1923 * m + 5) * r.length + 3 := by
  have h1 := listText_len_le (PyData.shownAll (r.map ti))
  have h2 := tis_shown r h
  have h3 : (PyData.shownAll (r.map ti)).length = r.length := by rw [PyData.shownAll_length, List.length_map]
  have h4 : (1923 * m + 5) * r.length = (1923 * m + 3) * r.length + 2 * r.length := by rw [← Nat.add_mul]
  show (listText (PyData.shownAll (r.map ti))).length ≤ _
  omega
theorem tti_shown {m : Nat} {r : List (List Int)} (h : ∀ p ∈ r, p.length ≤ m ∧ ∀ x ∈ p, Sml x) : (tti r).shown.length ≤ (1923 * m + 5) * r.length + 3 := by
  have h1 := tupleText_len_le (PyData.shownAll (r.map ti))
  have h2 := tis_shown r h
  have h3 : (PyData.shownAll (r.map ti)).length = r.length := by rw [PyData.shownAll_length, List.length_map]
  have h4 : (1923 * m + 5) * r.length = (1923 * m + 3) * r.length + 2 * r.length := by rw [← Nat.add_mul]
  show (tupleText (PyData.shownAll (r.map ti))).length ≤ _
  omega
/-! ### products -/
/-- a product with one box more, to a degree -/
def ext (d : Int) (p : List Int) : List (List Int) := (List.range (d - p.sum + 1).toNat).map fun (o : Nat) => p ++ [(o : Int)]
def raw (d : Int) : Nat → List (List Int)
  | 0 => [[]]
  | n + 1 => (raw d n).flatMap (ext d)
/-- a product beside its degree -/
def encP (p : List Int) : PyData := .tuple [.int p.sum, ti p]
def prods (n : Nat) (d : Int) : List (List Int) := (raw d n).mergeSort (PySem.W.dataLe false encP)
theorem ext_mem {d : Int} {p q : List Int} (h : q ∈ ext d p) : ∃ o : Nat, q = p ++ [(o : Int)] ∧ (o : Int) ≤ d - p.sum := by
  obtain ⟨o, ho, rfl⟩ := List.mem_map.mp h
  rw [List.mem_range] at ho
  exact ⟨o, rfl, by omega⟩
theorem sum_snoc (p : List Int) (o : Int) : (p ++ [o]).sum = p.sum + o := by
  rw [List.sum_append]
  simp
theorem raw_ok {d : Int} (hd : 0 ≤ d) : ∀ (n : Nat) (p : List Int), p ∈ raw d n → p.length = n ∧ 0 ≤ p.sum ∧ p.sum ≤ d ∧ ∀ x ∈ p, 0 ≤ x
  | 0, p, h => by
    rw [List.mem_singleton.mp (show p ∈ [[]] from h)]
    exact ⟨rfl, by decide, hd, fun x hx => by cases hx⟩
  | n + 1, p, h => by
    obtain ⟨q, hq, hp⟩ := List.mem_flatMap.mp h
    obtain ⟨h1, h2, h3, h4⟩ := raw_ok hd n q hq
    obtain ⟨o, rfl, ho⟩ := ext_mem hp
    refine ⟨by rw [List.length_append, h1]; rfl, by rw [sum_snoc]; omega, by rw [sum_snoc]; omega, fun x hx => ?_⟩
    rcases List.mem_append.mp hx with hx | hx
    · exact h4 x hx
    · rw [List.mem_singleton.mp hx]; omega
theorem ext_len {d : Int} {p : List Int} (h0 : 0 ≤ p.sum) (hd : d ≤ 6) : (ext d p).length ≤ 7 := by
  unfold ext
  rw [List.length_map, List.length_range]
  omega
theorem flat_len {d : Int} : ∀ (l : List (List Int)), (∀ p ∈ l, 0 ≤ p.sum) → d ≤ 6 → (l.flatMap (ext d)).length ≤ 7 * l.length
  | [], _, _ => by simp
  | p :: r, h, hd => by
    rw [List.flatMap_cons, List.length_append, List.length_cons]
    have h1 := ext_len (h p List.mem_cons_self) hd
    have h2 := flat_len r (fun q hq => h q (List.mem_cons_of_mem _ hq)) hd
    omega
theorem raw_len {d : Int} (hd : 0 ≤ d) (hd6 : d ≤ 6) : ∀ n : Nat, (raw d n).length ≤ 7 ^ n
  | 0 => Nat.le_refl 1
  | n + 1 => by
    have h1 := flat_len (raw d n) (fun p hp => (raw_ok hd n p hp).2.1) hd6
    have h2 := raw_len hd hd6 n
    show ((raw d n).flatMap (ext d)).length ≤ 7 ^ n * 7
    omega
theorem raw_len6 {d : Int} (hd : 0 ≤ d) (hd6 : d ≤ 6) {n : Nat} (hn : n ≤ 6) : (raw d n).length ≤ 117649 :=
  Nat.le_trans (raw_len hd hd6 n) (Nat.le_trans (Nat.pow_le_pow_right (by decide) hn) (by decide))
theorem prods_len (n : Nat) (d : Int) : (prods n d).length = (raw d n).length := List.length_mergeSort _
theorem prods_mem {n : Nat} {d : Int} {p : List Int} : p ∈ prods n d ↔ p ∈ raw d n := (List.mergeSort_perm _ _).mem_iff
theorem prods_ok {d : Int} (hd : 0 ≤ d) {n : Nat} {p : List Int} (h : p ∈ prods n d) : p.length = n ∧ 0 ≤ p.sum ∧ p.sum ≤ d ∧ ∀ x ∈ p, 0 ≤ x := raw_ok hd n p (prods_mem.mp h)
theorem sort_enc (l : List (List Int)) : dSort (l.map encP) = (l.mergeSort (PySem.W.dataLe false encP)).map encP :=
  (PySem.W.sort_maps (r := PySem.W.dataLe false encP) (s := PySem.W.dataLe false id) encP (fun _ _ _ _ => rfl)).symm
theorem alike_ints' (xs ys : List Int) : PySem.W.alikeAll (xs.map PyData.int) (ys.map PyData.int) = true := PySem.W.alike_ints xs ys
theorem enc_alike (l : List (List Int)) : PySem.W.AllAlike (l.map encP) := PySem.W.AllAlike.of fun p q => by
  show (true && (PySem.W.alikeAll (p.map PyData.int) (q.map PyData.int) && true)) = true
  rw [alike_ints']
  rfl
theorem enc_sortable (l : List (List Int)) : PySem.W.Sortable (l.map encP) := PySem.W.Sortable.tuples fun p => ⟨_, _, rfl⟩
theorem enc_depth (l : List (List Int)) : ∀ d ∈ l.map encP, d.depth ≤ 60 := fun d hd => by
  obtain ⟨p, _, rfl⟩ := List.mem_map.mp hd
  show max 0 (max (PyData.depthAll (p.map PyData.int) + 1) 0) + 1 ≤ 60
  rw [PySem.W.depth_ints]
  decide
/-- how many products there are, as it is reckoned -/
def hm (d : Int) : Nat → Int
  | 0 => 1
  | k + 1 => (hm d k * (d + (1 + (k : Int)))).fdiv (1 + (k : Int))
def sp_how_many : Sp := fun vs H Q _ => ∃ (n : Nat) (d : Int), vs = [.int (n : Int), .int d] ∧ n ≤ 6 ∧ 0 ≤ d ∧ d ≤ 6 ∧ Q (.int (hm d n)) H
/-- the promise: a new list of tuples -/
def sp_products (K : PySem.W.Frag) : Sp := fun vs H Q _ => ∃ (n : Nat) (d : Int) (F : Hp), vs = [.int (n : Int), .int d] ∧ Ex F H ∧ n ≤ 6 ∧ 0 ≤ d ∧ d ≤ 6 ∧
  ∀ p xs F' H', H p = none → Gr NoS F H F' H' → F' p = none → H' p = some (.lst xs) → DpAll K F' xs ((prods n d).map ti) → Q (.ref p) H'
end CB

set_option Elab.async false
set_option linter.all false
set_option maxRecDepth 100000
set_option maxHeartbeats 2000000
namespace CB
open PySem PySem.Spec PyProof.Rows L2
/-- what a def of data hands back: a value that reads as d, the frozen part grown -/
def RetD (K : PySem.W.Frag) (F H : Hp) (Q : VK) (d : PyData) : Prop := ∀ v F' H', Gr NoS F H F' H' → Dp K F' v d → Q v H'
/-- tuple(a list of ours) -/
theorem RetD.tuple {K : PySem.W.Frag} {F H F1 H1 : Hp} {Q : VK} {xs : List V} {ds : List PyData} {l : Addr} (q : RetD K F H Q (.tuple ds)) (g : Gr NoS F H F1 H1) (hl : H1 l = some (.lst xs)) (hd : DpAll K F1 xs ds) :
    (∃ p ys, [V.ref l] = [.ref p] ∧ ((SqL K H1 p ys ∧ ∀ l, H1 l = none → Q (.ref l) (upd H1 l (.tup ys))) ∨ (SqT K H1 p ys ∧ Q (.ref p) H1))) :=
  ⟨l, xs, rfl, .inl ⟨SqL.of hl, fun t nt => q _ _ _ (g.new nt) (.tup (SqT.of upd_same) (hd.ex (Evl.Ex.new (sub_none g.sub nt))))⟩⟩
theorem sum_nonneg : ∀ {p : List Int}, (∀ x ∈ p, 0 ≤ x) → 0 ≤ p.sum
  | [], _ => by decide
  | y :: r, h => by
    rw [List.sum_cons]
    have h1 := h y List.mem_cons_self
    have h2 := sum_nonneg (p := r) fun z hz => h z (List.mem_cons_of_mem _ hz)
    omega
theorem le_sum : ∀ {p : List Int} {x : Int}, (∀ x ∈ p, 0 ≤ x) → x ∈ p → x ≤ p.sum
  | [], _, _, hx => by cases hx
  | y :: r, x, h, hx => by
    rw [List.sum_cons]
    have h1 := h y List.mem_cons_self
    have h2 := sum_nonneg (p := r) fun z hz => h z (List.mem_cons_of_mem _ hz)
    rcases List.mem_cons.mp hx with rfl | hx
    · omega
    · have := le_sum (p := r) (fun z hz => h z (List.mem_cons_of_mem _ hz)) hx
      omega
/-! ### boxes multiplied -/
/-- the boxes (first) taken as often (second) -/
def wL (l : List (Int × Int)) : Int := l.foldl (fun w q => w * q.1 ^ q.2.toNat) 1
theorem wL_snoc (l : List (Int × Int)) (q : Int × Int) : wL (l ++ [q]) = wL l * q.1 ^ q.2.toNat := by
  unfold wL
  rw [List.foldl_append]
  rfl
def rowL (n : Nat) (d : Int) (boxes : List Int) : List Int := (prods n d).map fun p => wL (boxes.zip p)
theorem zip_get {α β : Type} {xs : List α} {ys : List β} {i : Nat} {x : α} {y : β} (hx : xs[i]? = some x) (hy : ys[i]? = some y) : (xs.zip ys)[i]? = some (x, y) := by
  rw [List.getElem?_zip_eq_some]
  exact ⟨hx, hy⟩
theorem take_zip_snoc {α β : Type} {xs : List α} {ys : List β} {i : Nat} {x : α} {y : β} (hx : xs[i]? = some x) (hy : ys[i]? = some y) : (xs.zip ys).take (i + 1) = (xs.zip ys).take i ++ [(x, y)] := by
  rw [List.take_add_one, zip_get hx hy]
  rfl
theorem int_get {ns : List Int} {i : Nat} {v : V} (h : (ns.map V.int)[i]? = some v) : ∃ x, ns[i]? = some x ∧ v = .int x := by
  rw [List.getElem?_map] at h
  obtain ⟨x, e, rfl⟩ := Option.map_eq_some_iff.mp h
  exact ⟨x, e, rfl⟩
/-- the promise of boxes_row -/
def sp_boxes_row (K : PySem.W.Frag) : Sp := fun vs H Q _ => ∃ (n : Nat) (d : Int) (bs : List Int) (v : V) (F : Hp), vs = [.int (n : Int), .int d, v] ∧ Ex F H ∧ Dp K F v (ti bs) ∧ bs.length = n ∧ n ≤ 6 ∧ 0 ≤ d ∧ d ≤ 6 ∧ (∀ x ∈ bs, -1000000 ≤ x ∧ x ≤ 1000000) ∧ RetD K F H Q (ti (rowL n d bs))
/-- the promise of a def that tells a row of all numbers -/
def sp_map_row (K : PySem.W.Frag) : Sp := fun vs H Q _ => ∃ (v : V) (r : List (List Int)) (F : Hp), vs = [v] ∧ Ex F H ∧ Dp K F v (tti r) ∧ r.flatten.length ≤ 10000 ∧ RetD K F H Q (ti r.flatten)
def sp_row_map (K : PySem.W.Frag) : Sp := fun vs H Q _ => ∃ (v : V) (r : List (List Int)) (m : Nat) (F : Hp), vs = [.int (r.length : Int), v] ∧ Ex F H ∧ Dp K F v (ti r.flatten) ∧ 0 < r.length ∧ r.length ≤ 1000 ∧ m ≤ 1000 ∧ (∀ p ∈ r, p.length = m) ∧ RetD K F H Q (tti r)
theorem flat_len_eq {r : List (List Int)} {m : Nat} (h : ∀ p ∈ r, p.length = m) : r.flatten.length = r.length * m := by
  induction r with
  | nil => simp
  | cons p r ih =>
    rw [List.flatten_cons, List.length_append, h p List.mem_cons_self, ih fun q hq => h q (List.mem_cons_of_mem _ hq), List.length_cons, Nat.succ_mul]
    omega
theorem flat_cut {m : Nat} : ∀ {r : List (List Int)} {k : Nat} {p : List Int}, (∀ p ∈ r, p.length = m) → r[k]? = some p → (r.flatten.drop (k * m)).take m = p
  | [], _, _, _, h => by simp at h
  | q :: r, 0, p, h, e => by
    have e' : q = p := by simpa using e
    subst e'
    rw [Nat.zero_mul, List.drop_zero, List.flatten_cons, List.take_append_of_le_length (by rw [h q List.mem_cons_self]; exact Nat.le_refl _)]
    exact List.take_of_length_le (by rw [h q List.mem_cons_self]; exact Nat.le_refl _)
  | q :: r, k + 1, p, h, e => by
    have ih := flat_cut (r := r) (k := k) (fun q hq => h q (List.mem_cons_of_mem _ hq)) (by simpa using e)
    rw [List.flatten_cons, Nat.succ_mul, Nat.add_comm (k * m) m, ← List.drop_drop]
    have e2 : (q ++ r.flatten).drop m = r.flatten := by
      rw [← h q List.mem_cons_self]
      exact List.drop_left
    rw [e2]
    exact ih
theorem cut_nat (xs : List V) {a b : Nat} (h : b ≤ xs.length) : cutV xs (some (a : Int)) (some (b : Int)) = (xs.drop (min a xs.length)).take (b - min a xs.length) := by
  unfold cutV
  rw [HT.sIx_nat, HT.sIx_nat, Nat.min_eq_left h]
/-! ### the deal beside a frozen part -/
structure Wr (d l : Addr) (F H : Hp) : Prop where
  sub : Ex F H
  nd : F d = none
  nl : F l = none
  deal : IsDeal H d l
section
variable {d l p : Addr} {F H F' H' : Hp} {o : HO}
theorem Wr.draw (h : Wr d l F H) (D : IsDeal H' d l) (k : Kp d l H H') : Wr d l F H' := ⟨fun b o e => k b o (ne_of_none e h.nd) (ne_of_none e h.nl) (h.sub b o e), h.nd, h.nl, D⟩
theorem Wr.gr (h : Wr d l F H) (g : Gr NoS F H F' H') : Wr d l F' H' := by
  obtain ⟨s, n, ls, D⟩ := h.deal
  exact ⟨g.sub, g.nf d h.nd (by rw [D.hd]; exact fun z => by cases z), g.nf l h.nl (by rw [D.hl]; exact fun z => by cases z), h.deal.ex g.ex⟩
theorem Wr.new (h : Wr d l F H) (hp : H p = none) : Wr d l (upd F p o) (upd H p o) := h.gr ((Gr.refl h.sub).new hp)
theorem Wr.newm (h : Wr d l F H) (hp : H p = none) : Wr d l F (upd H p o) := h.gr ((Gr.refl h.sub).newm hp)
theorem Wr.mut (h : Wr d l F H) (hf : F p = none) (n1 : p ≠ d) (n2 : p ≠ l) : Wr d l F (upd H p o) :=
  ⟨fun b u e => by rw [upd_ne (ne_of_none e hf)]; exact h.sub b u e, h.nd, h.nl, h.deal.upd n1 n2⟩
theorem Wr.ne (h : Wr d l F H) (hp : H p = none) : p ≠ d ∧ p ≠ l := h.deal.nd hp
theorem Kp.none (k : Kp d l H H') (n1 : p ≠ d) (n2 : p ≠ l) (e : H' p = none) : H p = none := by
  cases q : H p with
  | none => rfl
  | some o => rw [k p o n1 n2 q] at e; cases e
theorem Gr.toKp (g : Gr NoS F H F' H') : Kp d l H H' := Kp.of_ex g.ex
theorem Gr.of_ex (h : Ex F H) (x : Ex H H') : Gr NoS F H F H' := ⟨fun _ _ e => e, h.trans x, fun a o _ e => x a o e, fun a e => by
  cases q : H a with
  | none => exact absurd q e
  | some o => rw [x a o q]; exact fun z => (by cases z), fun _ e _ => e⟩
end
theorem rep_zero (ns : List Int) (k : Nat) : ns.map V.int ++ (List.replicate k [V.int 0]).flatten = (ns ++ List.replicate k 0).map V.int := by
  rw [List.map_append, List.map_replicate]
  congr 1
  induction k with
  | zero => rfl
  | succ k ih => rw [List.replicate_succ, List.flatten_cons, ih]; rfl
theorem eqv_refl (d : PyData) (h : SeqAt.shaped d = true) : PyData.eqv d d = true := SeqAt.eqv_refl d (SeqAt.canLay_of_shaped h)
end CB

set_option Elab.async false
set_option linter.all false
set_option maxRecDepth 100000
set_option maxHeartbeats 4000000
namespace LW
open PySem PySem.Spec PyProof.Rows L2 CB
def topS (i : Nat) : Stmt := PySem.Challenge.pw_curvekept_k29_rows_of_boxes_and_maps.main.body.getD i (.Pass ⟨0, 0, 0, 0⟩)
abbrev nm_products : List Str := ["n", "d", "found", "box", "longer", "product", "often", "many"]
abbrev st_products : Stmt := topS 1
theorem sc_products : FnScope ["n", "d", "found", "box", "longer", "product", "often", "many"] ["n", "d"] (defScope st_products) := ⟨rfl, rfl, rfl, by decide +kernel, rfl, by decide +kernel, by decide +kernel⟩

abbrev nm_boxes_row : List Str := ["n", "d", "boxes", "found", "product", "worth", "box", "often", "turn"]
abbrev st_boxes_row : Stmt := topS 3
theorem sc_boxes_row : FnScope ["n", "d", "boxes", "found", "product", "worth", "box", "often", "turn"] ["n", "d", "boxes"] (defScope st_boxes_row) := ⟨rfl, rfl, rfl, by decide +kernel, rfl, by decide +kernel, by decide +kernel⟩

abbrev nm_map_row : List Str := ["told", "found", "polynomial"]
abbrev st_map_row : Stmt := topS 4
theorem sc_map_row : FnScope ["told", "found", "polynomial"] ["told"] (defScope st_map_row) := ⟨rfl, rfl, rfl, by decide +kernel, rfl, by decide +kernel, by decide +kernel⟩

abbrev nm_row_map : List Str := ["many", "row", "wide", "k"]
abbrev st_row_map : Stmt := topS 5
theorem sc_row_map : FnScope ["many", "row", "wide", "k"] ["many", "row"] (defScope st_row_map) := ⟨rfl, rfl, rfl, by decide +kernel, rfl, by decide +kernel, by decide +kernel⟩

abbrev nm__law_deal : List Str := ["_law_script", "_law_base", "_law_some", "_law_one", "_law_number"]
abbrev st__law_deal : Stmt := topS 7
theorem sc__law_deal : FnScope ["_law_script", "_law_base", "_law_some", "_law_one", "_law_number"] ["_law_script", "_law_base"] (defScope st__law_deal) := ⟨rfl, rfl, rfl, by decide +kernel, rfl, by decide +kernel, by decide +kernel⟩

abbrev nm__law_draw : List Str := ["_law_deal_here", "_law_many", "_law_number", "_law_one", "_law_other"]
abbrev st__law_draw : Stmt := topS 8
theorem sc__law_draw : FnScope ["_law_deal_here", "_law_many", "_law_number", "_law_one", "_law_other"] ["_law_deal_here", "_law_many"] (defScope st__law_draw) := ⟨rfl, rfl, rfl, by decide +kernel, rfl, by decide +kernel, by decide +kernel⟩

abbrev nm__law_count : List Str := ["_law_n", "_law_d", "_law_found", "_law_k"]
abbrev st__law_count : Stmt := topS 9
theorem sc__law_count : FnScope ["_law_n", "_law_d", "_law_found", "_law_k"] ["_law_n", "_law_d"] (defScope st__law_count) := ⟨rfl, rfl, rfl, by decide +kernel, rfl, by decide +kernel, by decide +kernel⟩

abbrev nm__law_products : List Str := ["_law_n", "_law_d", "_law_found", "_law_k", "_law_longer", "_law_one", "_law_many"]
abbrev st__law_products : Stmt := topS 10
theorem sc__law_products : FnScope ["_law_n", "_law_d", "_law_found", "_law_k", "_law_longer", "_law_one", "_law_many"] ["_law_n", "_law_d"] (defScope st__law_products) := ⟨rfl, rfl, rfl, by decide +kernel, rfl, by decide +kernel, by decide +kernel⟩

abbrev nm__law_whole_row : List Str := ["_law_row", "_law_many", "_law_number"]
abbrev st__law_whole_row : Stmt := topS 11
theorem sc__law_whole_row : FnScope ["_law_row", "_law_many", "_law_number"] ["_law_row", "_law_many"] (defScope st__law_whole_row) := ⟨rfl, rfl, rfl, by decide +kernel, rfl, by decide +kernel, by decide +kernel⟩

abbrev nm__law_worth : List Str := ["_law_product", "_law_boxes", "_law_found", "_law_often", "_law_box", "_law_turn"]
abbrev st__law_worth : Stmt := topS 12
theorem sc__law_worth : FnScope ["_law_product", "_law_boxes", "_law_found", "_law_often", "_law_box", "_law_turn"] ["_law_product", "_law_boxes"] (defScope st__law_worth) := ⟨rfl, rfl, rfl, by decide +kernel, rfl, by decide +kernel, by decide +kernel⟩

abbrev nm__law_any_number : List Str := ["_law_deal_here"]
abbrev st__law_any_number : Stmt := topS 13
theorem sc__law_any_number : FnScope ["_law_deal_here"] ["_law_deal_here"] (defScope st__law_any_number) := ⟨rfl, rfl, rfl, by decide +kernel, rfl, by decide +kernel, by decide +kernel⟩

abbrev nm__law_once_right : List Str := ["_law_deal_here", "_law_n", "_law_m", "_law_some", "_law_d", "_law_boxes", "_law_k", "_law_found", "_law_due", "_law_product", "_law_wide", "_law_short", "_law_numbers", "_law_j", "_law_row", "_law_one", "_law_again"]
abbrev st__law_once_right : Stmt := topS 14
theorem sc__law_once_right : FnScope ["_law_deal_here", "_law_n", "_law_m", "_law_some", "_law_d", "_law_boxes", "_law_k", "_law_found", "_law_due", "_law_product", "_law_wide", "_law_short", "_law_numbers", "_law_j", "_law_row", "_law_one", "_law_again"] ["_law_deal_here"] (defScope st__law_once_right) := ⟨rfl, rfl, rfl, by decide +kernel, rfl, by decide +kernel, by decide +kernel⟩

abbrev nm_law : List Str := ["_law_script", "_law_deal_here", "_law_turn"]
abbrev st_law : Stmt := topS 15
theorem sc_law : FnScope ["_law_script", "_law_deal_here", "_law_turn"] ["_law_script"] (defScope st_law) := ⟨rfl, rfl, rfl, by decide +kernel, rfl, by decide +kernel, by decide +kernel⟩

/-! ### what the top leaves -/
structure Txt (K : PySem.W.Frag) (mg : Str → Option Value) where
  f_products : Addr
  fd_products : FuncData
  F_products : Fun K "products" "products" st_products f_products fd_products
  b_products : Binds K fd_products ["n", "d"] []
  g_products : mg "products" = some (.ref f_products)
  f_boxes_row : Addr
  fd_boxes_row : FuncData
  F_boxes_row : Fun K "boxes_row" "boxes_row" st_boxes_row f_boxes_row fd_boxes_row
  b_boxes_row : Binds K fd_boxes_row ["n", "d", "boxes"] []
  g_boxes_row : mg "boxes_row" = some (.ref f_boxes_row)
  f_map_row : Addr
  fd_map_row : FuncData
  F_map_row : Fun K "map_row" "map_row" st_map_row f_map_row fd_map_row
  b_map_row : Binds K fd_map_row ["told"] []
  g_map_row : mg "map_row" = some (.ref f_map_row)
  f_row_map : Addr
  fd_row_map : FuncData
  F_row_map : Fun K "row_map" "row_map" st_row_map f_row_map fd_row_map
  b_row_map : Binds K fd_row_map ["many", "row"] []
  g_row_map : mg "row_map" = some (.ref f_row_map)
  f__law_deal : Addr
  fd__law_deal : FuncData
  F__law_deal : Fun K "_law_deal" "_law_deal" st__law_deal f__law_deal fd__law_deal
  b__law_deal : Binds K fd__law_deal ["_law_script", "_law_base"] []
  g__law_deal : mg "_law_deal" = some (.ref f__law_deal)
  f__law_draw : Addr
  fd__law_draw : FuncData
  F__law_draw : Fun K "_law_draw" "_law_draw" st__law_draw f__law_draw fd__law_draw
  b__law_draw : Binds K fd__law_draw ["_law_deal_here", "_law_many"] []
  g__law_draw : mg "_law_draw" = some (.ref f__law_draw)
  f__law_count : Addr
  fd__law_count : FuncData
  F__law_count : Fun K "_law_count" "_law_count" st__law_count f__law_count fd__law_count
  b__law_count : Binds K fd__law_count ["_law_n", "_law_d"] []
  g__law_count : mg "_law_count" = some (.ref f__law_count)
  f__law_products : Addr
  fd__law_products : FuncData
  F__law_products : Fun K "_law_products" "_law_products" st__law_products f__law_products fd__law_products
  b__law_products : Binds K fd__law_products ["_law_n", "_law_d"] []
  g__law_products : mg "_law_products" = some (.ref f__law_products)
  f__law_whole_row : Addr
  fd__law_whole_row : FuncData
  F__law_whole_row : Fun K "_law_whole_row" "_law_whole_row" st__law_whole_row f__law_whole_row fd__law_whole_row
  b__law_whole_row : Binds K fd__law_whole_row ["_law_row", "_law_many"] []
  g__law_whole_row : mg "_law_whole_row" = some (.ref f__law_whole_row)
  f__law_worth : Addr
  fd__law_worth : FuncData
  F__law_worth : Fun K "_law_worth" "_law_worth" st__law_worth f__law_worth fd__law_worth
  b__law_worth : Binds K fd__law_worth ["_law_product", "_law_boxes"] []
  g__law_worth : mg "_law_worth" = some (.ref f__law_worth)
  f__law_any_number : Addr
  fd__law_any_number : FuncData
  F__law_any_number : Fun K "_law_any_number" "_law_any_number" st__law_any_number f__law_any_number fd__law_any_number
  b__law_any_number : Binds K fd__law_any_number ["_law_deal_here"] []
  g__law_any_number : mg "_law_any_number" = some (.ref f__law_any_number)
  f__law_once_right : Addr
  fd__law_once_right : FuncData
  F__law_once_right : Fun K "_law_once_right" "_law_once_right" st__law_once_right f__law_once_right fd__law_once_right
  b__law_once_right : Binds K fd__law_once_right ["_law_deal_here"] []
  g__law_once_right : mg "_law_once_right" = some (.ref f__law_once_right)
  f_law : Addr
  fd_law : FuncData
  F_law : Fun K "law" "law" st_law f_law fd_law
  b_law : Binds K fd_law ["_law_script"] []
  g_law : mg "law" = some (.ref f_law)
  z_all : mg "all" = none
  z_bool : mg "bool" = none
  z_int : mg "int" = none
  z_isinstance : mg "isinstance" = none
  z_len : mg "len" = none
  z_list : mg "list" = none
  z_max : mg "max" = none
  z_range : mg "range" = none
  z_reversed : mg "reversed" = none
  z_sorted : mg "sorted" = none
  z_sum : mg "sum" = none
  z_tuple : mg "tuple" = none
  z_zip : mg "zip" = none
section
variable {P : Program} {w : World} {K : PySem.W.Frag} {mg : Str → Option Value} {base : Heap}
/-! ### a draw -/
theorem ok_draw {k : Nat} (T : Txt K mg) : FnOk P w K mg base CX0 (k + 1) T.f__law_draw T.fd__law_draw ["_law_deal_here", "_law_many"] sp_draw := by
  refine T.F__law_draw.ok sc__law_draw (fun vs H Q E h => ?_) (fun cdv A outer s H vs Q E hr h => ?_)
  · obtain ⟨d, l, m, rfl, _⟩ := h
    rfl
  · obtain ⟨d, l, m, rfl, hD, m0, m1, q⟩ := h
    have hu := hu_of hr
    refine ⟨_, (Evl.pss_cut (ps_while PassesOwn.never (PW.pt (pw_and (pt_cmpR op_eq (pe_dget hu (pv 0) pe_str (fun _ _ => rfl)) pe_int (nomark _)) (pw_and1 (pt_cmpR op_gt (pe_callB (call_lenK (K := K)) (by rfl) T.z_len bt_len (pa_cons (pe_dget hu (pv 0) pe_str (fun _ _ => rfl)) pa_nil)) pe_int (nomark _)))))
        (pss_one (ps_dput hu (pv 0) pe_str (pe_bm0 PySem.F.plainAttrs_list PySem.F.slot_list_pop PySem.F.type_list_pop mt_pop (pe_dget hu (pv 0) pe_str (fun _ _ => rfl))) rfl)))
      (pss_cons (ps_set (i := 2) sc__law_draw.nd rfl (Or.inl rfl) (pe_dget hu (pv 0) pe_str (fun _ _ => rfl)))
      (pss_cons (ps_if (pt_cmpR op_gt (pv 2) pe_int (nomark _)) (pss_cons (ps_dput hu (pv 0) pe_str (pe_op op_fdivN (pv 2) (pv 1)) rfl)
        (pss_one (ps_ret (pe_op op_modN (pv 2) (pv 1))))) pss_nil)
      (pss_cons (ps_set (i := 3) sc__law_draw.nd rfl (Or.inl rfl) (pe_op op_modN (pe_op op_add (pe_op op_mul (pe_dget hu (pv 0) pe_str (fun _ _ => rfl)) pe_int) pe_int) pe_int))
      (pss_cons (ps_dput hu (pv 0) pe_str (pe_op op_modN (pe_op op_add (pe_op op_mul (pv 3) pe_int) pe_int) pe_int) rfl)
      (pss_cons (ps_set (i := 4) sc__law_draw.nd rfl (Or.inl rfl) (pe_op op_modN (pe_op op_mul (pe_dget hu (pv 0) pe_str (fun _ _ => rfl)) (pe_dget hu (pv 0) pe_str (fun _ _ => rfl))) pe_int))
      (pss_one (ps_ret (pe_op op_modN (pe_op op_add (pe_op op_mul (pe_op op_modN (pe_op op_mul (pv 3) (pv 3)) pe_int) pe_int) (pv 4)) (pv 1)))))))))), ?_⟩
    refine ⟨fun σ H1 => ∃ s n ls, σ = [some (.ref d), some (.int m), none, none, none] ∧ Deal H1 d l s n ls ∧ (∀ b, b ≠ d → b ≠ l → H1 b = H b), ?_, ?_⟩
    · refine ⟨fun mm σ H1 => ∃ s n ls, σ = [some (.ref d), some (.int m), none, none, none] ∧ Deal H1 d l s n ls ∧ ls.length = mm ∧ (∀ b, b ≠ d → b ≠ l → H1 b = H b), ?_, ?_⟩
      · obtain ⟨s, n, ls, h⟩ := hD
        exact ⟨_, s, n, ls, rfl, h, rfl, fun _ _ _ => rfl⟩
      · rintro mm σ H1 ⟨s, n, ls, rfl, D, el, fr⟩
        refine ⟨.ref d, rfl, d, .int n, rfl, D.g_number, rfl, _, rfl, ite2 (fun e => ?_) (fun e => ⟨s, n, ls, rfl, D, fr⟩)⟩
        refine ⟨.ref d, rfl, d, .ref l, rfl, D.g_left, l, ls.map V.int, rfl, .inl (SqL.of D.hl), _, _, rfl, rfl, _, rfl, ite2 (fun e2 => ?_) (fun e2 => ⟨s, n, ls, rfl, D, fr⟩)⟩
        refine ⟨_, fun σ' H' h => h, ?_⟩
        have hls : ls ≠ [] := fun z => by
          subst z
          exact absurd (of_decide_eq_true e2) (by simp)
        obtain ⟨y, y0, hy⟩ := D.last hls
        refine ⟨.ref d, rfl, d, .ref l, rfl, D.g_left, .inl ⟨rfl, _, SqL.of D.hl⟩, l, _, _, rfl, rfl, D.hl, hy, .ref d, rfl, d, _, rfl, (D.pop hls).p_number _, ls.length - 1, ?_, s, y, ls.dropLast, rfl, (D.pop hls).with_number (by omega), List.length_dropLast, fun b h1 h2 => ?_⟩
        · have : 0 < ls.length := List.length_pos_iff.mpr hls
          omega
        · rw [upd_ne h1, upd_ne h2]
          exact fr b h1 h2
    · rintro σ H1 ⟨s, n, ls, rfl, D, fr⟩
      refine ⟨.ref d, rfl, d, .int n, rfl, D.g_number, ?_⟩
      refine ⟨.int n, rfl, n, 0, rfl, rfl, _, rfl, ite2 (fun e => ?_) (fun e => ?_)⟩
      · have hn : 0 < n := of_decide_eq_true e
        refine ⟨.int n, rfl, .int m, rfl, n, m, rfl, rfl, ⟨by omega, by omega⟩, .ref d, rfl, d, _, rfl, D.p_number _, ?_⟩
        refine ⟨.int n, rfl, .int m, rfl, n, m, rfl, rfl, by omega, ?_⟩
        have e1 : n.fmod m = n % m := Int.fmod_eq_emod_of_nonneg n (by omega)
        have e2 : n.fdiv m = n / m := Int.fdiv_eq_ediv_of_nonneg n (by omega)
        show Q (.int (n.fmod m)) (upd H1 d (.dK (dealD s (n.fdiv m) l)))
        rw [e1, e2]
        exact q _ _ (Int.emod_nonneg _ (by omega)) (Int.emod_lt_of_pos _ m0) ⟨_, _, _, D.with_number (Int.ediv_nonneg (by omega) (by omega))⟩ (Kp.of_draw fun b h1 h2 => by rw [upd_ne h1]; exact fr b h1 h2)
      · have fm : ∀ x k : Int, 0 < k → 0 ≤ x.fmod k ∧ x.fmod k < k := fun x k hk => by
          rw [Int.fmod_eq_emod_of_nonneg x (by omega)]
          exact ⟨Int.emod_nonneg _ (by omega), Int.emod_lt_of_pos _ hk⟩
        have z0 := D.s0
        have z1 := D.s1
        have b1 := fm (s * 48271 + 7919) 2147483647 (by omega)
        obtain ⟨one, hone⟩ : ∃ x, x = (s * 48271 + 7919).fmod 2147483647 := ⟨_, rfl⟩
        rw [← hone] at b1
        refine ⟨.ref d, rfl, d, .int s, rfl, D.g_seed, _, _, rfl, rfl, .inl ⟨by omega, by omega⟩, _, _, rfl, rfl, _, _, rfl, rfl, by dsimp only; decide, ?_⟩
        have b2 := fm (one * 40692 + 104729) 2147483399 (by omega)
        refine ⟨.int one, by rw [hone]; rfl, _, _, rfl, rfl, .inl ⟨by omega, by omega⟩, _, _, rfl, rfl, _, _, rfl, rfl, by dsimp only; decide, .ref d, rfl, d, _, rfl, D.p_seed _, ?_⟩
        have D2 := D.with_seed (m := (one * 40692 + 104729).fmod 2147483399) b2.1 (by omega)
        have b4 := fm (one * one) 2147483629 (by omega)
        refine ⟨.ref d, rfl, d, _, rfl, D2.g_seed, .ref d, rfl, d, _, rfl, D2.g_seed, _, _, rfl, rfl, .inl ⟨by omega, by omega⟩, _, _, rfl, rfl, by dsimp only; decide, ?_⟩
        refine ⟨.int one, by rw [hone]; rfl, .int one, by rw [hone]; rfl, _, _, rfl, rfl, .inl ⟨by omega, by omega⟩, _, _, rfl, rfl, by dsimp only; decide, _, _, rfl, rfl, .inl ⟨by omega, by omega⟩, _, rfl, _, _, rfl, rfl, .int m, rfl, _, _, rfl, rfl, by dsimp only; omega, ?_⟩
        exact q _ _ (fm _ m m0).1 (fm _ m m0).2 ⟨_, _, _, D2⟩ (Kp.of_draw fun b h1 h2 => by rw [upd_ne h1]; exact fr b h1 h2)

/-! ### the deal -/
theorem ok_deal {k : Nat} (T : Txt K mg) : FnOk P w K mg base CX0 (k + 1) T.f__law_deal T.fd__law_deal ["_law_script", "_law_base"] (sp_deal K) := by
  refine T.F__law_deal.ok sc__law_deal (fun vs H Q E h => ?_) (fun cdv A outer s H vs Q E hr h => ?_)
  · obtain ⟨a, ns, b, rfl, _⟩ := h
    rfl
  · obtain ⟨a, ns, b, rfl, hS, hlen, b0, b1, q⟩ := h
    refine ⟨_, (pss_cons (ps_setLc (i := 2) (own := [("_law_one", 3)]) (g := gName 3) (tt := tYes) rfl sc__law_deal.nd rfl rfl (sw_true rfl rfl rfl (by decide +kernel)) (pi_listK (K := K) (pe_slice (sl_listK (K := K)) (pv 0) (po_some (pv 1)) (po_some pe_int))) (blkOk_by (own := [("_law_one", 3)]) (N := nm__law_deal) (sc := defScope st__law_deal) (by decide +kernel)) (fun _ _ _ _ _ => (pg_name (i := 3) sc__law_deal.nd rfl (Or.inl rfl))) (fun _ _ _ _ _ => pts_nil) (fun _ _ _ _ _ => (pe_callB (call_max2 rfl) (by rfl) T.z_max bt_max (pa_cons (pv 3) (pa_cons (pe_op op_sub pe_int (pv 3)) pa_nil)))))
      (pss_cons (ps_set (i := 4) sc__law_deal.nd rfl (Or.inl rfl) (pe_op op_add pe_int (pv 1)))
      (Evl.pss_cut (ps_for PassesOwn.never rfl (pi_listK (K := K) (pv 2)) (pg_name (i := 3) sc__law_deal.nd rfl (Or.inl rfl))
        (pss_one (ps_set (i := 4) sc__law_deal.nd rfl (Or.inl rfl) (pe_op op_modN (pe_op op_add (pe_op op_mul (pv 4) pe_int) (pe_op op_modN (pv 3) pe_int)) pe_int))))
      (pss_one (ps_ret (pe_disp (pps_cons pe_str (pv 4) (pps_cons pe_str pe_int (pps_cons pe_str (pe_listRev (K := K) rfl (by rfl) T.z_list (by rfl) T.z_reversed (pe_lc (own := [("_law_one", 3)]) (g := gName 3) rfl sc__law_deal.nd (pi_listK (K := K) (pv 2)) (blkOk_by (own := [("_law_one", 3)]) (N := nm__law_deal) (sc := defScope st__law_deal) (by decide +kernel)) (fun _ _ _ _ _ => (pg_name (i := 3) sc__law_deal.nd rfl (Or.inl rfl))) (fun _ _ _ _ _ => (pts_one (pt_cmpR op_ge (pv 3) (pe_op op_pow pe_int pe_int) (nomark _)))) (fun _ _ _ _ _ => (pv 3)))) pps_nil))) (by rfl) (by rfl) (fun z => by cases z) (by decide))))))), ?_⟩
    refine ⟨.ref a, rfl, .int b, rfl, b, rfl, 63, rfl, a, _, rfl, hS, fun p np => ⟨p, rfl, ⟨_, SqL.of upd_same⟩, fun D nD => ?_⟩⟩
    obtain ⟨ms, ems, lms⟩ := cut_ints ns (some b) (some 63)
    rw [ems] at nD ⊢
    have x0 : Ex H (upd H p (.lst (ms.map V.int))) := Evl.Ex.new np
    have hDp : D ≠ p := fun e => by rw [e, upd_same] at nD; cases nD
    have nDH : H D = none := Evl.fresh_back x0 nD
    refine lc_list (K := K) (a := p) (xs := ms.map V.int) (fun i H' => Ex H H' ∧ H' p = some (.lst (ms.map V.int)) ∧ ∃ bs : List Int, bs.length = i ∧ H' D = some (.lst (bs.map V.int))) ⟨x0.trans (Evl.Ex.new nD), by rw [upd_ne hDp.symm, upd_same], [], rfl, upd_same⟩ (fun i H' _ h => SqL.of h.2.1) (fun i x H' hx h => ?_) (fun H' h => ?_)
    · obtain ⟨x1, hp, bs, el, hb⟩ := h
      obtain ⟨z, rfl⟩ : ∃ z, x = .int z := by
        rw [List.getElem?_map] at hx
        obtain ⟨z, _, e⟩ := Option.map_eq_some_iff.mp hx
        exact ⟨z, e.symm⟩
      have hi : i < ms.length := by
        have := (List.getElem?_eq_some_iff.mp hx).1
        rw [List.length_map] at this
        exact this
      refine ⟨rfl, .int z, rfl, _, rfl, _, _, rfl, rfl, _, _, rfl, bs.map V.int, hb, small1000 (by rw [List.length_map]; omega), Evl.Ex.mut x1 nDH, by rw [upd_ne hDp.symm]; exact hp, bs ++ [_], by rw [List.length_append, el]; rfl, by rw [upd_same, List.map_append]; rfl⟩
    · obtain ⟨x1, hp, bs, el, hb⟩ := h
      rw [List.length_map] at el
      refine ⟨.int b, rfl, _, _, rfl, rfl, ?_⟩
      refine ⟨fun σ H3 => ∃ n, σ = [some (.ref a), some (.int b), some (.ref D), σ.getD 3 none, some (.int n)] ∧ 0 ≤ n ∧ n < 2147483648 ∧ H3 = H', ?_, ?_⟩
      · refine ⟨.ref D, rfl, D, rfl, ⟨_, SqL.of hb⟩, for_list (K := K) (a := D) (xs := bs.map V.int) (fun i σ H3 => ∃ n, σ = [some (.ref a), some (.int b), some (.ref D), σ.getD 3 none, some (.int n)] ∧ 0 ≤ n ∧ n < 2147483648 ∧ H3 = H') ⟨7919 + b, rfl, by omega, by omega, rfl⟩ (fun i σ H3 _ h => ?_) (fun i x σ H3 hx h => ?_) (fun σ H3 h => h)⟩
        · obtain ⟨n, _, _, _, rfl⟩ := h
          exact SqL.of hb
        · obtain ⟨n, e, n0, n1, rfl⟩ := h
          generalize σ.getD 3 none = y at e
          subst e
          obtain ⟨z, rfl⟩ : ∃ z, x = .int z := by
            rw [List.getElem?_map] at hx
            obtain ⟨z, _, e⟩ := Option.map_eq_some_iff.mp hx
            exact ⟨z, e.symm⟩
          refine ⟨.int n, rfl, _, _, rfl, rfl, .inl ⟨by omega, by omega⟩, .int z, rfl, _, _, rfl, rfl, by dsimp only; decide, _, _, rfl, rfl, _, _, rfl, rfl, by dsimp only; decide, ?_⟩
          exact ⟨_, rfl, (fmod_in _ _ (by decide)).1, Int.lt_trans (fmod_in _ 2147483647 (by decide)).2 (by decide), rfl⟩
      · rintro σ H3 ⟨n, e, n0, n1, rfl⟩
        generalize σ.getD 3 none = y at e
        subst e
        -- the dict
        intro d nd
        have ndH : H d = none := Evl.fresh_back x1 nd
        have hdD : D ≠ d := ne_of_none hb nd
        refine ⟨.int n, rfl, ?_⟩
        refine ⟨.ref D, rfl, D, rfl, ⟨_, SqL.of (by rw [upd_ne hdD]; exact hb)⟩, fun D2 nD2 => ?_⟩
        have hdD2 : D2 ≠ d := fun e => by rw [e, upd_same] at nD2; cases nD2
        have nD2H : H3 D2 = none := by rw [upd_ne hdD2] at nD2; exact nD2
        have hDD2 : D ≠ D2 := ne_of_none hb nD2H
        refine lc_list (K := K) (a := D) (xs := bs.map V.int) (fun i H' => Ex H H' ∧ H' D = some (.lst (bs.map V.int)) ∧ H' d = some (.dK []) ∧ ∃ cs : List Int, cs.length ≤ i ∧ (∀ x ∈ cs, 0 < x) ∧ H' D2 = some (.lst (cs.map V.int))) ⟨Evl.Ex.mut (Evl.Ex.mut x1 ndH) (Evl.fresh_back x1 nD2H), by rw [upd_ne hDD2, upd_ne hdD]; exact hb, by rw [upd_ne hdD2.symm, upd_same], [], by simp, fun x hx => by simp at hx, upd_same⟩ (fun i H' _ h => SqL.of h.2.1) (fun i x H' hx h => ?_) (fun H' h => ?_)
        · obtain ⟨x2, hb2, hd2, cs, lc, pc, hc⟩ := h
          obtain ⟨z, rfl⟩ : ∃ z, x = .int z := by
            rw [List.getElem?_map] at hx
            obtain ⟨z, _, e⟩ := Option.map_eq_some_iff.mp hx
            exact ⟨z, e.symm⟩
          have hi : i < bs.length := by
            have := (List.getElem?_eq_some_iff.mp hx).1
            rw [List.length_map] at this
            exact this
          refine ⟨rfl, .int z, rfl, _, _, rfl, rfl, ⟨by decide, by decide, by decide⟩, _, _, rfl, rfl, _, rfl, ite2 (fun e => ?_) (fun e => ?_)⟩
          · have hz : (10 : Int) ^ (18 : Int).toNat ≤ z := of_decide_eq_true e
            have hz0 : 0 < z := Int.lt_of_lt_of_le (by decide) hz
            refine ⟨.int z, rfl, cs.map V.int, hc, small1000 (by rw [List.length_map]; omega), Evl.Ex.mut x2 (Evl.fresh_back x1 nD2H), by rw [upd_ne hDD2]; exact hb2, by rw [upd_ne hdD2.symm]; exact hd2, cs ++ [z], by rw [List.length_append]; show cs.length + 1 ≤ i + 1; omega, fun x hx => ?_, by rw [upd_same, List.map_append]; rfl⟩
            rcases List.mem_append.mp hx with h | h
            · exact pc x h
            · rw [List.mem_singleton.mp h]; exact hz0
          · exact ⟨x2, hb2, hd2, cs, by omega, pc, hc⟩
        · obtain ⟨x2, hb2, hd2, cs, lc, pc, hc⟩ := h
          rw [List.length_map] at lc
          refine ⟨D2, _, rfl, SqL.of hc, fun l nl => ?_⟩
          have hdl : d ≠ l := ne_of_none hd2 nl
          refine ⟨by rw [upd_ne hdl]; exact hd2, dealD n 0 l, rfl, by show 3 ≤ 15; decide, ?_⟩
          rw [merge_deal]
          refine q d l _ (Evl.Ex.mut (Evl.Ex.mut x2 (Evl.fresh_back x2 nl)) ndH) ndH (Evl.fresh_back x2 nl) ⟨n, 0, cs.reverse, upd_same, ?_, n0, n1, by omega, fun x hx => pc x (List.mem_reverse.mp hx), by rw [List.length_reverse]; omega⟩
          rw [upd_ne hdl.symm, upd_same, List.map_reverse]

/-! ### products -/
theorem ok_products {k : Nat} (T : Txt K mg) : FnOk P w K mg base CX0 (k + 1) T.f_products T.fd_products ["n", "d"] (sp_products K) := by
  refine T.F_products.ok sc_products (fun vs H Q E h => ?_) (fun cdv A outer s H vs Q E hr h => ?_)
  · obtain ⟨n, d, F, rfl, _⟩ := h
    rfl
  · obtain ⟨n, d, F, rfl, hF, hn, d0, d6, q⟩ := h
    have hu64 : (A.deeper (envOfC "products" (defScope st_products) s.heap.objs.size T.f_products cdv)).units + 64 < cLine := hr.units
    refine ⟨_, (pss_cons (ps_set (i := 2) sc_products.nd rfl (Or.inl rfl) (pe_lst (pa_cons (pe_tup pa_nil) pa_nil)))
      (Evl.pss_cut (ps_for PassesOwn.never rfl (pi_range1 (by rfl) T.z_range (pa_cons (pv 0) pa_nil)) (pg_name (i := 3) sc_products.nd rfl (Or.inl rfl))
        (pss_cons (ps_set (i := 4) sc_products.nd rfl (Or.inl rfl) (pe_lst pa_nil))
        (Evl.pss_cut (ps_for PassesOwn.never rfl (pi_listK (K := K) (pv 2)) (pg_name (i := 5) sc_products.nd rfl (Or.inr rfl))
          (pss_one (ps_expr (pe_bmK (K := K) PySem.F.plainAttrs_list PySem.F.slot_list_extend PySem.F.type_list_extend (mt_extK .L (K := K)) (pv 4) (pa_cons (pe_lc (own := [("often", 6)]) (g := gName 6) (tt := tYes) rfl sc_products.nd (pi_range1 (by rfl) T.z_range (pa_cons (pe_op op_add (pe_op op_sub (pv 1) (pe_callB (cr_sumT (K := K) rfl) (by rfl) T.z_sum bt_sum (pa_cons (pv 5) pa_nil))) pe_int) pa_nil)) (blkOk_by (own := [("often", 6)]) (N := nm_products) (sc := defScope st_products) (by decide +kernel)) (fun _ _ _ _ _ => (pg_name (i := 6) sc_products.nd rfl (Or.inl rfl))) (fun _ _ _ _ _ => pts_nil) (fun _ _ _ _ _ => (pe_op (op_catK (K := K)) (pv 5) (pe_tup (pa_cons (pv 6) pa_nil))))) pa_nil)))))
        (pss_one (ps_set (i := 2) sc_products.nd rfl (Or.inl rfl) (pv 4))))))
      (pss_one (ps_ret (pe_lc (own := [("many", 7), ("product", 5)]) (g := gTup K 2 (gCons (gName 7) (gCons (gName 5) gNil))) (tt := tYes) rfl sc_products.nd (pi_listK (K := K) (pe_callB (cr_sortD (K := K) hr.units) (by rfl) T.z_sorted bt_sorted (pa_cons (pe_lc (own := [("product", 5)]) (g := gName 5) (tt := tYes) rfl sc_products.nd (pi_listK (K := K) (pv 2)) (blkOk_by (own := [("product", 5)]) (N := nm_products) (sc := defScope st_products) (by decide +kernel)) (fun _ _ _ _ _ => (pg_name (i := 5) sc_products.nd rfl (Or.inl rfl))) (fun _ _ _ _ _ => pts_nil) (fun _ _ _ _ _ => (pe_tup (pa_cons (pe_callB (cr_sumT (K := K) rfl) (by rfl) T.z_sum bt_sum (pa_cons (pv 5) pa_nil)) (pa_cons (pv 5) pa_nil))))) pa_nil))) (blkOk_by (own := [("many", 7), ("product", 5)]) (N := nm_products) (sc := defScope st_products) (by decide +kernel)) (fun _ _ _ _ _ => (pg_tupK (K := K) rfl (pgs_cons (pg_name (i := 7) sc_products.nd rfl (Or.inl rfl)) (pgs_cons (pg_name (i := 5) sc_products.nd rfl (Or.inl rfl)) pgs_nil)))) (fun _ _ _ _ _ => pts_nil) (fun _ _ _ _ _ => (pv 5))))))), ?_⟩
    -- found = [()]
    refine ⟨by show 0 ≤ sizeLine; decide, fun e0 ne0 => ⟨by show 1 ≤ sizeLine; decide, fun pf npf => ?_⟩⟩
    have g1 : Gr NoS F H (upd F e0 (.tup [])) (upd H e0 (.tup [])) := (Gr.refl hF).new ne0
    have npfH : H pf = none := g1.none npf
    have nF1 : (upd F e0 (.tup [])) pf = none := sub_none g1.sub npf
    refine ⟨fun σ H' => ∃ F' pf xs y3 y4 y5 y6, σ = [some (.int n), some (.int d), some (.ref pf), y3, y4, y5, y6, none] ∧ Gr NoS F H F' H' ∧ H pf = none ∧ F' pf = none ∧ H' pf = some (.lst xs) ∧ DpAll K F' xs ((raw d n).map ti), ?_, ?_⟩
    · refine ⟨.int (n : Int), rfl, (n : Int), rfl, by omega, by omega, for_range (lo := 0) (n := (n : Int).toNat) (fun i σ H' => ∃ F' pf xs y3 y4 y5 y6, σ = [some (.int n), some (.int d), some (.ref pf), y3, y4, y5, y6, none] ∧ Gr NoS F H F' H' ∧ H pf = none ∧ F' pf = none ∧ H' pf = some (.lst xs) ∧ DpAll K F' xs ((raw d i).map ti)) ?_ (fun i σ H' hi h => ?_) (fun σ H' h => ?_)⟩
      · exact ⟨_, pf, _, _, _, _, _, rfl, g1.newm npf, npfH, nF1, upd_same, .cons (.tup (SqT.of upd_same) .nil) .nil⟩
      · obtain ⟨F1, pf, xs, y3, y4, y5, y6, rfl, g, nH, nF, hf, hd⟩ := h
        have hi6 : i ≤ 6 := by omega
        -- longer = []
        refine ⟨Nat.zero_le _, fun pl npl => ?_⟩
        have nplH : H pl = none := g.none npl
        have ne1 : pf ≠ pl := ne_of_none hf npl
        have hxl : xs.length = (raw d i).length := by rw [DpAll.length hd, List.length_map]
        refine ⟨fun σ H' => ∃ F' zs y5 y6, σ = [some (.int n), some (.int d), some (.ref pf), some (.int (0 + (i : Int))), some (.ref pl), y5, y6, none] ∧ Gr NoS F H F' H' ∧ F' pl = none ∧ H' pl = some (.lst zs) ∧ DpAll K F' zs ((raw d (i + 1)).map ti), ?_, ?_⟩
        · refine ⟨.ref pf, rfl, pf, rfl, ⟨_, SqL.of (by rw [upd_ne ne1]; exact hf)⟩, for_list (K := K) (a := pf) (xs := xs) (fun j σ H' => ∃ F' zs y5 y6, σ = [some (.int n), some (.int d), some (.ref pf), some (.int (0 + (i : Int))), some (.ref pl), y5, y6, none] ∧ Gr NoS F H F' H' ∧ F' pf = none ∧ H' pf = some (.lst xs) ∧ DpAll K F' xs ((raw d i).map ti) ∧ F' pl = none ∧ H' pl = some (.lst zs) ∧ DpAll K F' zs ((((raw d i).take j).flatMap (ext d)).map ti)) ?_ (fun j σ H' _ h => ?_) (fun j x σ H' hx h => ?_) (fun σ H' h => ?_)⟩
          · exact ⟨F1, [], _, _, rfl, g.newm npl, nF, by rw [upd_ne ne1]; exact hf, hd, sub_none g.sub npl, upd_same, .nil⟩
          · obtain ⟨F', zs, y5, y6, _, _, _, h, _⟩ := h
            exact SqL.of h
          · obtain ⟨F2, zs, y5, y6, rfl, g2, nf2, hf2, hd2, nl2, hl2, hz2⟩ := h
            obtain ⟨dd, ed, hdd⟩ := DpAll.get hd2 hx
            rw [List.getElem?_map] at ed
            obtain ⟨p, ep, rfl⟩ := Option.map_eq_some_iff.mp ed
            obtain ⟨a, rfl, ha⟩ := hdd.ti_inv
            obtain ⟨r1, r2, r3, r4⟩ := raw_ok d0 i p (List.mem_of_getElem? ep)
            have hzl : zs.length ≤ 117649 := by
              rw [DpAll.length hz2, List.length_map]
              have h1 := flat_len ((raw d i).take j) (fun p hp => (raw_ok d0 i p (List.mem_of_mem_take hp)).2.1) d6
              have h3 := raw_len d0 d6 i
              have h4 : 7 ^ i ≤ 7 ^ 5 := Nat.pow_le_pow_right (by decide) (by omega)
              rw [List.length_take] at h1
              have : (7 : Nat) ^ 5 = 16807 := by decide
              omega
            refine ⟨.ref pl, rfl, .inl ⟨rfl, _, SqL.of hl2⟩, ?_⟩
            refine ⟨.int d, rfl, .ref a, rfl, a, p, rfl, ex_T g2.sub ha, _, _, rfl, rfl, _, _, rfl, rfl, d - p.sum + 1, rfl, by omega, by omega, fun D nD => ?_⟩
            refine lc_range (lo := 0) (n := (d - p.sum + 1).toNat) (fun m H3 => ∃ F3 ws, Gr NoS F2 H' F3 H3 ∧ F3 D = none ∧ H3 D = some (.lst ws) ∧ DpAll K F3 ws ((List.range m).map fun (o : Nat) => ti (p ++ [(o : Int)]))) ⟨F2, [], (Gr.refl g2.sub).newm nD, sub_none g2.sub nD, upd_same, .nil⟩ (fun m H3 hm h => ?_) (fun H3 h => ?_)
            · obtain ⟨F3, ws, g3, nD3, hD3, hw3⟩ := h
              have hwl : ws.length < sizeLine := by
                rw [DpAll.length hw3, List.length_map, List.length_range]
                exact small1000 (by omega)
              refine ⟨rfl, .ref a, rfl, .int (0 + (m : Int)), rfl, by show 1 ≤ sizeLine; decide, fun t nt => ?_⟩
              have g4 := g3.new (o := .tup [.int (0 + (m : Int))]) nt
              have ntD : D ≠ t := ne_of_none hD3 nt
              have n4 : upd F3 t (.tup [.int (0 + (m : Int))]) D = none := by rw [upd_ne ntD]; exact nD3
              have e4 : upd H3 t (.tup [.int (0 + (m : Int))]) D = some (.lst ws) := by rw [upd_ne ntD]; exact hD3
              have ea4 : SqT K (upd F3 t (.tup [.int (0 + (m : Int))])) a (p.map V.int) := ex_T g4.fz ha
              have fin : ∀ (b : Addr) (F5 H5 : Hp), Gr NoS F2 H' F5 H5 → F5 D = none → H5 D = some (.lst ws) → Ex F3 F5 → SqT K F5 b ((p ++ [(m : Int)]).map V.int) →
                  ∃ acc, H5 D = some (.lst acc) ∧ acc.length < sizeLine ∧ ∃ F3 ws, Gr NoS F2 H' F3 (upd H5 D (.lst (acc ++ [.ref b]))) ∧ F3 D = none ∧ (upd H5 D (.lst (acc ++ [.ref b]))) D = some (.lst ws) ∧ DpAll K F3 ws ((List.range (m + 1)).map fun (o : Nat) => ti (p ++ [(o : Int)])) := fun b F5 H5 g5 nD5 hD5 x5 hb => by
                refine ⟨ws, hD5, hwl, F5, ws ++ [.ref b], g5.mut nD nD5, nD5, upd_same, ?_⟩
                rw [List.range_succ, List.map_append]
                exact (hw3.ex x5).snoc (Dp.of_ti hb)
              have z0 : (0 : Int) + (m : Int) = m := by omega
              refine ⟨a, t, _, _, rfl, rfl, ex_T g4.sub ea4, SqT.of upd_same, ?_, fun h => ?_, fun _ h => absurd h (by simp), fun h1 _ b nb => ?_⟩
              · rw [List.length_map]
                exact Nat.le_of_lt (small1000 (by show p.length + 1 ≤ 1000; omega))
              · have hp0 : p = [] := List.map_eq_nil_iff.mp h
                subst hp0
                refine fin t _ _ g4 n4 e4 (Evl.Ex.new (sub_none g3.sub nt)) (SqT.of ?_)
                rw [upd_same, z0]
                rfl
              · have g5 := g4.new (o := .tup (p.map V.int ++ [.int (0 + (m : Int))])) nb
                have nbD : D ≠ b := ne_of_none e4 nb
                refine fin b _ _ g5 (by rw [upd_ne nbD]; exact n4) (by rw [upd_ne nbD]; exact e4) ((Evl.Ex.new (sub_none g3.sub nt)).trans (Evl.Ex.new (sub_none g4.sub nb))) (SqT.of ?_)
                rw [upd_same, z0, List.map_append]
                rfl
            · obtain ⟨F3, ws, g3, nD3, hD3, hw3⟩ := h
              obtain ⟨n1, m1⟩ := g3.keepm (fun h => h) nl2 hl2
              obtain ⟨n2, m2⟩ := g3.keepm (fun h => h) nf2 hf2
              refine ⟨pl, D, zs, ws, rfl, rfl, m1, SqL.of hD3, ?_, F3, zs ++ ws, _, _, rfl, (g2.trans g3).mut nplH n1, n2, by rw [upd_ne ne1]; exact m2, hd2.ex g3.fz, n1, upd_same, ?_⟩
              · have : ws.length ≤ 7 := by
                  rw [DpAll.length hw3, List.length_map, List.length_range]
                  omega
                exact Nat.le_trans (show zs.length + ws.length ≤ 200000 by omega) (by decide)
              · rw [List.take_add_one, ep, List.flatMap_append, List.map_append]
                refine (hz2.ex g3.fz).append ?_
                have e5 : ((some p).toList.flatMap (ext d)).map ti = (List.range (d - p.sum + 1).toNat).map fun (o : Nat) => ti (p ++ [(o : Int)]) := by
                  show (((ext d p) ++ []).map ti) = _
                  rw [List.append_nil]
                  unfold ext
                  rw [List.map_map]
                  rfl
                rw [e5]
                exact hw3
          · obtain ⟨F2, zs, y5, y6, e, g2, _, _, _, nl2, hl2, hz2⟩ := h
            rw [hxl, List.take_of_length_le (Nat.le_refl _)] at hz2
            exact ⟨F2, zs, y5, y6, e, g2, nl2, hl2, hz2⟩
        · rintro σ H' ⟨F2, zs, y5, y6, rfl, g2, nl2, hl2, hz2⟩
          exact ⟨.ref pl, rfl, F2, pl, zs, _, _, _, _, rfl, g2, nplH, nl2, hl2, hz2⟩
      · rw [Int.toNat_natCast] at h
        exact h
    · rintro σ H1 ⟨F1, pf, xs, y3, y4, y5, y6, rfl, g, nH, nF, hf, hd⟩
      have hxl : xs.length = (raw d n).length := by rw [DpAll.length hd, List.length_map]
      have hx6 := raw_len6 d0 d6 hn
      -- the pairs
      refine ⟨.ref pf, rfl, pf, rfl, ⟨_, SqL.of hf⟩, fun D nD => ?_⟩
      refine lc_list (K := K) (a := pf) (xs := xs) (fun j H2 => ∃ F2 ws, Gr NoS F1 H1 F2 H2 ∧ F2 D = none ∧ H2 D = some (.lst ws) ∧ DpAll K F2 ws (((raw d n).take j).map encP)) ⟨F1, [], (Gr.refl g.sub).newm nD, sub_none g.sub nD, upd_same, .nil⟩ (fun j H2 _ h => ?_) (fun j x H2 hx h => ?_) (fun H2 h => ?_)
      · obtain ⟨F2, ws, g2, _⟩ := h
        exact SqL.of (g2.ex _ _ hf)
      · obtain ⟨F2, ws, g2, nD2, hD2, hw2⟩ := h
        obtain ⟨dd, ed, hdd⟩ := DpAll.get hd hx
        rw [List.getElem?_map] at ed
        obtain ⟨p, ep, rfl⟩ := Option.map_eq_some_iff.mp ed
        obtain ⟨a, rfl, ha⟩ := hdd.ti_inv
        have hwl : ws.length < sizeLine := by
          rw [DpAll.length hw2, List.length_map, List.length_take]
          have : 117650 ≤ sizeLine := by decide
          omega
        refine ⟨rfl, .ref a, rfl, a, p, rfl, ex_T g2.sub (ex_T g2.fz ha), .ref a, rfl, by show 2 ≤ sizeLine; decide, fun t nt => ?_⟩
        have g3 := g2.new (o := .tup [.int p.sum, .ref a]) nt
        have ntD : D ≠ t := ne_of_none hD2 nt
        refine ⟨ws, by rw [upd_ne ntD]; exact hD2, hwl, _, ws ++ [.ref t], g3.mut nD (by rw [upd_ne ntD]; exact nD2), by rw [upd_ne ntD]; exact nD2, upd_same, ?_⟩
        rw [List.take_add_one, ep, List.map_append]
        refine (hw2.ex (Evl.Ex.new (sub_none g2.sub nt))).append (.cons (.tup (SqT.of upd_same) (.cons (.int _) (.cons (Dp.of_ti (ex_T g3.fz ha)) .nil))) .nil)
      · obtain ⟨F2, ws, g2, nD2, hD2, hw2⟩ := h
        rw [hxl, List.take_of_length_le (Nat.le_refl _)] at hw2
        refine ⟨D, ws, (raw d n).map encP, rfl, SqL.of hD2, hw2.ex g2.sub, enc_alike _, enc_sortable _, enc_depth _, fun ys ps nps hys hmem => ?_⟩
        have hys2 := hys F2 hw2
        rw [sort_enc] at hys2
        change DpAll K F2 ys ((prods n d).map encP) at hys2
        have hyl : ys.length ≤ 117649 := by
          rw [DpAll.length hys2, List.length_map, prods_len]
          exact hx6
        have g3 : Gr NoS F1 H1 F2 (upd H2 ps (.lst ys)) := g2.newm nps
        refine ⟨ps, rfl, ⟨_, SqL.of upd_same⟩, fun R nR => ?_⟩
        have nRH : H R = none := (g.trans g3).none nR
        have nRF : F2 R = none := sub_none g3.sub nR
        refine lc_list (K := K) (a := ps) (xs := ys) (fun j H4 => ∃ zs, Gr NoS F2 (upd H2 ps (.lst ys)) F2 H4 ∧ H4 R = some (.lst zs) ∧ DpAll K F2 zs (((prods n d).take j).map ti)) ⟨[], (Gr.refl g3.sub).newm nR, upd_same, .nil⟩ (fun j H4 _ h => ?_) (fun j x H4 hx h => ?_) (fun H4 h => ?_)
        · obtain ⟨zs, g4, _⟩ := h
          exact SqL.of (g4.ex _ _ upd_same)
        · obtain ⟨zs, g4, hR4, hz4⟩ := h
          obtain ⟨dd, ed, hdd⟩ := DpAll.get hys2 hx
          rw [List.getElem?_map] at ed
          obtain ⟨p, ep, rfl⟩ := Option.map_eq_some_iff.mp ed
          obtain ⟨t, us, rfl, ht, hus⟩ := Dp.tup_inv hdd
          cases hus with
          | cons h3 h4 =>
            cases h3
            cases h4 with
            | cons h5 h6 =>
              cases h6
              rename_i v
              have hzl : zs.length < sizeLine := by
                rw [DpAll.length hz4, List.length_map, List.length_take, prods_len]
                have : 117650 ≤ sizeLine := by decide
                omega
              refine ⟨t, _, rfl, ex_T g4.sub ht, rfl, _, _, rfl, v, [], rfl, rfl, rfl, v, rfl, zs, hR4, hzl, zs ++ [v], g4.mut nR nRF, upd_same, ?_⟩
              rw [List.take_add_one, ep, List.map_append]
              exact hz4.append (.cons h5 .nil)
        · obtain ⟨zs, g4, hR4, hz4⟩ := h
          have hfull : (prods n d).take ys.length = prods n d := List.take_of_length_le (by rw [DpAll.length hys2, List.length_map]; exact Nat.le_refl _)
          rw [hfull] at hz4
          exact q R zs F2 H4 nRH ((g.trans g3).trans g4) nRF hR4 hz4

/-! ### _law_products -/
theorem ok__law_products {k : Nat} (T : Txt K mg) : FnOk P w K mg base CX0 (k + 1) T.f__law_products T.fd__law_products ["_law_n", "_law_d"] (sp_products K) := by
  refine T.F__law_products.ok sc__law_products (fun vs H Q E h => ?_) (fun cdv A outer s H vs Q E hr h => ?_)
  · obtain ⟨n, d, F, rfl, _⟩ := h
    rfl
  · obtain ⟨n, d, F, rfl, hF, hn, d0, d6, q⟩ := h
    have hu64 : (A.deeper (envOfC "_law_products" (defScope st__law_products) s.heap.objs.size T.f__law_products cdv)).units + 64 < cLine := hr.units
    refine ⟨_, (pss_cons (ps_set (i := 2) sc__law_products.nd rfl (Or.inl rfl) (pe_lst (pa_cons (pe_tup pa_nil) pa_nil)))
      (Evl.pss_cut (ps_for PassesOwn.never rfl (pi_range1 (by rfl) T.z_range (pa_cons (pv 0) pa_nil)) (pg_name (i := 3) sc__law_products.nd rfl (Or.inl rfl))
        (pss_cons (ps_set (i := 4) sc__law_products.nd rfl (Or.inl rfl) (pe_lst pa_nil))
        (Evl.pss_cut (ps_for PassesOwn.never rfl (pi_listK (K := K) (pv 2)) (pg_name (i := 5) sc__law_products.nd rfl (Or.inr rfl))
          (pss_one (ps_expr (pe_bmK (K := K) PySem.F.plainAttrs_list PySem.F.slot_list_extend PySem.F.type_list_extend (mt_extK .L (K := K)) (pv 4) (pa_cons (pe_lc (own := [("_law_many", 6)]) (g := gName 6) (tt := tYes) rfl sc__law_products.nd (pi_range1 (by rfl) T.z_range (pa_cons (pe_op op_add (pe_op op_sub (pv 1) (pe_callB (cr_sumT (K := K) rfl) (by rfl) T.z_sum bt_sum (pa_cons (pv 5) pa_nil))) pe_int) pa_nil)) (blkOk_by (own := [("_law_many", 6)]) (N := nm__law_products) (sc := defScope st__law_products) (by decide +kernel)) (fun _ _ _ _ _ => (pg_name (i := 6) sc__law_products.nd rfl (Or.inl rfl))) (fun _ _ _ _ _ => pts_nil) (fun _ _ _ _ _ => (pe_op (op_catK (K := K)) (pv 5) (pe_tup (pa_cons (pv 6) pa_nil))))) pa_nil)))))
        (pss_one (ps_set (i := 2) sc__law_products.nd rfl (Or.inl rfl) (pv 4))))))
      (pss_one (ps_ret (pe_lc (own := [("_law_one", 5)]) (g := gName 5) (tt := tYes) rfl sc__law_products.nd (pi_listK (K := K) (pe_callB (cr_sortD (K := K) hr.units) (by rfl) T.z_sorted bt_sorted (pa_cons (pe_lc (own := [("_law_one", 5)]) (g := gName 5) (tt := tYes) rfl sc__law_products.nd (pi_listK (K := K) (pv 2)) (blkOk_by (own := [("_law_one", 5)]) (N := nm__law_products) (sc := defScope st__law_products) (by decide +kernel)) (fun _ _ _ _ _ => (pg_name (i := 5) sc__law_products.nd rfl (Or.inl rfl))) (fun _ _ _ _ _ => pts_nil) (fun _ _ _ _ _ => (pe_tup (pa_cons (pe_callB (cr_sumT (K := K) rfl) (by rfl) T.z_sum bt_sum (pa_cons (pv 5) pa_nil)) (pa_cons (pv 5) pa_nil))))) pa_nil))) (blkOk_by (own := [("_law_one", 5)]) (N := nm__law_products) (sc := defScope st__law_products) (by decide +kernel)) (fun _ _ _ _ _ => (pg_name (i := 5) sc__law_products.nd rfl (Or.inl rfl))) (fun _ _ _ _ _ => pts_nil) (fun _ _ _ _ _ => (pe_ix (ix_tupK (K := K)) (pv 5) pe_int (fun _ _ => rfl)))))))), ?_⟩
    -- found = [()]
    refine ⟨by show 0 ≤ sizeLine; decide, fun e0 ne0 => ⟨by show 1 ≤ sizeLine; decide, fun pf npf => ?_⟩⟩
    have g1 : Gr NoS F H (upd F e0 (.tup [])) (upd H e0 (.tup [])) := (Gr.refl hF).new ne0
    have npfH : H pf = none := g1.none npf
    have nF1 : (upd F e0 (.tup [])) pf = none := sub_none g1.sub npf
    refine ⟨fun σ H' => ∃ F' pf xs y3 y4 y5 y6, σ = [some (.int n), some (.int d), some (.ref pf), y3, y4, y5, y6] ∧ Gr NoS F H F' H' ∧ H pf = none ∧ F' pf = none ∧ H' pf = some (.lst xs) ∧ DpAll K F' xs ((raw d n).map ti), ?_, ?_⟩
    · refine ⟨.int (n : Int), rfl, (n : Int), rfl, by omega, by omega, for_range (lo := 0) (n := (n : Int).toNat) (fun i σ H' => ∃ F' pf xs y3 y4 y5 y6, σ = [some (.int n), some (.int d), some (.ref pf), y3, y4, y5, y6] ∧ Gr NoS F H F' H' ∧ H pf = none ∧ F' pf = none ∧ H' pf = some (.lst xs) ∧ DpAll K F' xs ((raw d i).map ti)) ?_ (fun i σ H' hi h => ?_) (fun σ H' h => ?_)⟩
      · exact ⟨_, pf, _, _, _, _, _, rfl, g1.newm npf, npfH, nF1, upd_same, .cons (.tup (SqT.of upd_same) .nil) .nil⟩
      · obtain ⟨F1, pf, xs, y3, y4, y5, y6, rfl, g, nH, nF, hf, hd⟩ := h
        have hi6 : i ≤ 6 := by omega
        -- longer = []
        refine ⟨Nat.zero_le _, fun pl npl => ?_⟩
        have nplH : H pl = none := g.none npl
        have ne1 : pf ≠ pl := ne_of_none hf npl
        have hxl : xs.length = (raw d i).length := by rw [DpAll.length hd, List.length_map]
        refine ⟨fun σ H' => ∃ F' zs y5 y6, σ = [some (.int n), some (.int d), some (.ref pf), some (.int (0 + (i : Int))), some (.ref pl), y5, y6] ∧ Gr NoS F H F' H' ∧ F' pl = none ∧ H' pl = some (.lst zs) ∧ DpAll K F' zs ((raw d (i + 1)).map ti), ?_, ?_⟩
        · refine ⟨.ref pf, rfl, pf, rfl, ⟨_, SqL.of (by rw [upd_ne ne1]; exact hf)⟩, for_list (K := K) (a := pf) (xs := xs) (fun j σ H' => ∃ F' zs y5 y6, σ = [some (.int n), some (.int d), some (.ref pf), some (.int (0 + (i : Int))), some (.ref pl), y5, y6] ∧ Gr NoS F H F' H' ∧ F' pf = none ∧ H' pf = some (.lst xs) ∧ DpAll K F' xs ((raw d i).map ti) ∧ F' pl = none ∧ H' pl = some (.lst zs) ∧ DpAll K F' zs ((((raw d i).take j).flatMap (ext d)).map ti)) ?_ (fun j σ H' _ h => ?_) (fun j x σ H' hx h => ?_) (fun σ H' h => ?_)⟩
          · exact ⟨F1, [], _, _, rfl, g.newm npl, nF, by rw [upd_ne ne1]; exact hf, hd, sub_none g.sub npl, upd_same, .nil⟩
          · obtain ⟨F', zs, y5, y6, _, _, _, h, _⟩ := h
            exact SqL.of h
          · obtain ⟨F2, zs, y5, y6, rfl, g2, nf2, hf2, hd2, nl2, hl2, hz2⟩ := h
            obtain ⟨dd, ed, hdd⟩ := DpAll.get hd2 hx
            rw [List.getElem?_map] at ed
            obtain ⟨p, ep, rfl⟩ := Option.map_eq_some_iff.mp ed
            obtain ⟨a, rfl, ha⟩ := hdd.ti_inv
            obtain ⟨r1, r2, r3, r4⟩ := raw_ok d0 i p (List.mem_of_getElem? ep)
            have hzl : zs.length ≤ 117649 := by
              rw [DpAll.length hz2, List.length_map]
              have h1 := flat_len ((raw d i).take j) (fun p hp => (raw_ok d0 i p (List.mem_of_mem_take hp)).2.1) d6
              have h3 := raw_len d0 d6 i
              have h4 : 7 ^ i ≤ 7 ^ 5 := Nat.pow_le_pow_right (by decide) (by omega)
              rw [List.length_take] at h1
              have : (7 : Nat) ^ 5 = 16807 := by decide
              omega
            refine ⟨.ref pl, rfl, .inl ⟨rfl, _, SqL.of hl2⟩, ?_⟩
            refine ⟨.int d, rfl, .ref a, rfl, a, p, rfl, ex_T g2.sub ha, _, _, rfl, rfl, _, _, rfl, rfl, d - p.sum + 1, rfl, by omega, by omega, fun D nD => ?_⟩
            refine lc_range (lo := 0) (n := (d - p.sum + 1).toNat) (fun m H3 => ∃ F3 ws, Gr NoS F2 H' F3 H3 ∧ F3 D = none ∧ H3 D = some (.lst ws) ∧ DpAll K F3 ws ((List.range m).map fun (o : Nat) => ti (p ++ [(o : Int)]))) ⟨F2, [], (Gr.refl g2.sub).newm nD, sub_none g2.sub nD, upd_same, .nil⟩ (fun m H3 hm h => ?_) (fun H3 h => ?_)
            · obtain ⟨F3, ws, g3, nD3, hD3, hw3⟩ := h
              have hwl : ws.length < sizeLine := by
                rw [DpAll.length hw3, List.length_map, List.length_range]
                exact small1000 (by omega)
              refine ⟨rfl, .ref a, rfl, .int (0 + (m : Int)), rfl, by show 1 ≤ sizeLine; decide, fun t nt => ?_⟩
              have g4 := g3.new (o := .tup [.int (0 + (m : Int))]) nt
              have ntD : D ≠ t := ne_of_none hD3 nt
              have n4 : upd F3 t (.tup [.int (0 + (m : Int))]) D = none := by rw [upd_ne ntD]; exact nD3
              have e4 : upd H3 t (.tup [.int (0 + (m : Int))]) D = some (.lst ws) := by rw [upd_ne ntD]; exact hD3
              have ea4 : SqT K (upd F3 t (.tup [.int (0 + (m : Int))])) a (p.map V.int) := ex_T g4.fz ha
              have fin : ∀ (b : Addr) (F5 H5 : Hp), Gr NoS F2 H' F5 H5 → F5 D = none → H5 D = some (.lst ws) → Ex F3 F5 → SqT K F5 b ((p ++ [(m : Int)]).map V.int) →
                  ∃ acc, H5 D = some (.lst acc) ∧ acc.length < sizeLine ∧ ∃ F3 ws, Gr NoS F2 H' F3 (upd H5 D (.lst (acc ++ [.ref b]))) ∧ F3 D = none ∧ (upd H5 D (.lst (acc ++ [.ref b]))) D = some (.lst ws) ∧ DpAll K F3 ws ((List.range (m + 1)).map fun (o : Nat) => ti (p ++ [(o : Int)])) := fun b F5 H5 g5 nD5 hD5 x5 hb => by
                refine ⟨ws, hD5, hwl, F5, ws ++ [.ref b], g5.mut nD nD5, nD5, upd_same, ?_⟩
                rw [List.range_succ, List.map_append]
                exact (hw3.ex x5).snoc (Dp.of_ti hb)
              have z0 : (0 : Int) + (m : Int) = m := by omega
              refine ⟨a, t, _, _, rfl, rfl, ex_T g4.sub ea4, SqT.of upd_same, ?_, fun h => ?_, fun _ h => absurd h (by simp), fun h1 _ b nb => ?_⟩
              · rw [List.length_map]
                exact Nat.le_of_lt (small1000 (by show p.length + 1 ≤ 1000; omega))
              · have hp0 : p = [] := List.map_eq_nil_iff.mp h
                subst hp0
                refine fin t _ _ g4 n4 e4 (Evl.Ex.new (sub_none g3.sub nt)) (SqT.of ?_)
                rw [upd_same, z0]
                rfl
              · have g5 := g4.new (o := .tup (p.map V.int ++ [.int (0 + (m : Int))])) nb
                have nbD : D ≠ b := ne_of_none e4 nb
                refine fin b _ _ g5 (by rw [upd_ne nbD]; exact n4) (by rw [upd_ne nbD]; exact e4) ((Evl.Ex.new (sub_none g3.sub nt)).trans (Evl.Ex.new (sub_none g4.sub nb))) (SqT.of ?_)
                rw [upd_same, z0, List.map_append]
                rfl
            · obtain ⟨F3, ws, g3, nD3, hD3, hw3⟩ := h
              obtain ⟨n1, m1⟩ := g3.keepm (fun h => h) nl2 hl2
              obtain ⟨n2, m2⟩ := g3.keepm (fun h => h) nf2 hf2
              refine ⟨pl, D, zs, ws, rfl, rfl, m1, SqL.of hD3, ?_, F3, zs ++ ws, _, _, rfl, (g2.trans g3).mut nplH n1, n2, by rw [upd_ne ne1]; exact m2, hd2.ex g3.fz, n1, upd_same, ?_⟩
              · have : ws.length ≤ 7 := by
                  rw [DpAll.length hw3, List.length_map, List.length_range]
                  omega
                exact Nat.le_trans (show zs.length + ws.length ≤ 200000 by omega) (by decide)
              · rw [List.take_add_one, ep, List.flatMap_append, List.map_append]
                refine (hz2.ex g3.fz).append ?_
                have e5 : ((some p).toList.flatMap (ext d)).map ti = (List.range (d - p.sum + 1).toNat).map fun (o : Nat) => ti (p ++ [(o : Int)]) := by
                  show (((ext d p) ++ []).map ti) = _
                  rw [List.append_nil]
                  unfold ext
                  rw [List.map_map]
                  rfl
                rw [e5]
                exact hw3
          · obtain ⟨F2, zs, y5, y6, e, g2, _, _, _, nl2, hl2, hz2⟩ := h
            rw [hxl, List.take_of_length_le (Nat.le_refl _)] at hz2
            exact ⟨F2, zs, y5, y6, e, g2, nl2, hl2, hz2⟩
        · rintro σ H' ⟨F2, zs, y5, y6, rfl, g2, nl2, hl2, hz2⟩
          exact ⟨.ref pl, rfl, F2, pl, zs, _, _, _, _, rfl, g2, nplH, nl2, hl2, hz2⟩
      · rw [Int.toNat_natCast] at h
        exact h
    · rintro σ H1 ⟨F1, pf, xs, y3, y4, y5, y6, rfl, g, nH, nF, hf, hd⟩
      have hxl : xs.length = (raw d n).length := by rw [DpAll.length hd, List.length_map]
      have hx6 := raw_len6 d0 d6 hn
      -- the pairs
      refine ⟨.ref pf, rfl, pf, rfl, ⟨_, SqL.of hf⟩, fun D nD => ?_⟩
      refine lc_list (K := K) (a := pf) (xs := xs) (fun j H2 => ∃ F2 ws, Gr NoS F1 H1 F2 H2 ∧ F2 D = none ∧ H2 D = some (.lst ws) ∧ DpAll K F2 ws (((raw d n).take j).map encP)) ⟨F1, [], (Gr.refl g.sub).newm nD, sub_none g.sub nD, upd_same, .nil⟩ (fun j H2 _ h => ?_) (fun j x H2 hx h => ?_) (fun H2 h => ?_)
      · obtain ⟨F2, ws, g2, _⟩ := h
        exact SqL.of (g2.ex _ _ hf)
      · obtain ⟨F2, ws, g2, nD2, hD2, hw2⟩ := h
        obtain ⟨dd, ed, hdd⟩ := DpAll.get hd hx
        rw [List.getElem?_map] at ed
        obtain ⟨p, ep, rfl⟩ := Option.map_eq_some_iff.mp ed
        obtain ⟨a, rfl, ha⟩ := hdd.ti_inv
        have hwl : ws.length < sizeLine := by
          rw [DpAll.length hw2, List.length_map, List.length_take]
          have : 117650 ≤ sizeLine := by decide
          omega
        refine ⟨rfl, .ref a, rfl, a, p, rfl, ex_T g2.sub (ex_T g2.fz ha), .ref a, rfl, by show 2 ≤ sizeLine; decide, fun t nt => ?_⟩
        have g3 := g2.new (o := .tup [.int p.sum, .ref a]) nt
        have ntD : D ≠ t := ne_of_none hD2 nt
        refine ⟨ws, by rw [upd_ne ntD]; exact hD2, hwl, _, ws ++ [.ref t], g3.mut nD (by rw [upd_ne ntD]; exact nD2), by rw [upd_ne ntD]; exact nD2, upd_same, ?_⟩
        rw [List.take_add_one, ep, List.map_append]
        refine (hw2.ex (Evl.Ex.new (sub_none g2.sub nt))).append (.cons (.tup (SqT.of upd_same) (.cons (.int _) (.cons (Dp.of_ti (ex_T g3.fz ha)) .nil))) .nil)
      · obtain ⟨F2, ws, g2, nD2, hD2, hw2⟩ := h
        rw [hxl, List.take_of_length_le (Nat.le_refl _)] at hw2
        refine ⟨D, ws, (raw d n).map encP, rfl, SqL.of hD2, hw2.ex g2.sub, enc_alike _, enc_sortable _, enc_depth _, fun ys ps nps hys hmem => ?_⟩
        have hys2 := hys F2 hw2
        rw [sort_enc] at hys2
        change DpAll K F2 ys ((prods n d).map encP) at hys2
        have hyl : ys.length ≤ 117649 := by
          rw [DpAll.length hys2, List.length_map, prods_len]
          exact hx6
        have g3 : Gr NoS F1 H1 F2 (upd H2 ps (.lst ys)) := g2.newm nps
        refine ⟨ps, rfl, ⟨_, SqL.of upd_same⟩, fun R nR => ?_⟩
        have nRH : H R = none := (g.trans g3).none nR
        have nRF : F2 R = none := sub_none g3.sub nR
        refine lc_list (K := K) (a := ps) (xs := ys) (fun j H4 => ∃ zs, Gr NoS F2 (upd H2 ps (.lst ys)) F2 H4 ∧ H4 R = some (.lst zs) ∧ DpAll K F2 zs (((prods n d).take j).map ti)) ⟨[], (Gr.refl g3.sub).newm nR, upd_same, .nil⟩ (fun j H4 _ h => ?_) (fun j x H4 hx h => ?_) (fun H4 h => ?_)
        · obtain ⟨zs, g4, _⟩ := h
          exact SqL.of (g4.ex _ _ upd_same)
        · obtain ⟨zs, g4, hR4, hz4⟩ := h
          obtain ⟨dd, ed, hdd⟩ := DpAll.get hys2 hx
          rw [List.getElem?_map] at ed
          obtain ⟨p, ep, rfl⟩ := Option.map_eq_some_iff.mp ed
          obtain ⟨t, us, rfl, ht, hus⟩ := Dp.tup_inv hdd
          cases hus with
          | cons h3 h4 =>
            cases h3
            cases h4 with
            | cons h5 h6 =>
              cases h6
              rename_i v
              have hzl : zs.length < sizeLine := by
                rw [DpAll.length hz4, List.length_map, List.length_take, prods_len]
                have : 117650 ≤ sizeLine := by decide
                omega
              refine ⟨rfl, .ref t, rfl, t, _, 1, v, rfl, rfl, ex_T g4.sub ht, rfl, zs, hR4, hzl, zs ++ [v], g4.mut nR nRF, upd_same, ?_⟩
              rw [List.take_add_one, ep, List.map_append]
              exact hz4.append (.cons h5 .nil)
        · obtain ⟨zs, g4, hR4, hz4⟩ := h
          have hfull : (prods n d).take ys.length = prods n d := List.take_of_length_le (by rw [DpAll.length hys2, List.length_map]; exact Nat.le_refl _)
          rw [hfull] at hz4
          exact q R zs F2 H4 nRH ((g.trans g3).trans g4) nRF hR4 hz4

/-! ### _law_count -/
theorem ok__law_count {k : Nat} (T : Txt K mg) : FnOk P w K mg base CX0 (k + 1) T.f__law_count T.fd__law_count ["_law_n", "_law_d"] sp_how_many := by
  refine T.F__law_count.ok sc__law_count (fun vs H Q E h => ?_) (fun cdv A outer s H vs Q E hr h => ?_)
  · obtain ⟨n, d, rfl, _⟩ := h
    rfl
  · obtain ⟨n, d, rfl, hn, d0, d6, q⟩ := h
    refine ⟨_, (pss_cons (ps_set (i := 2) sc__law_count.nd rfl (Or.inl rfl) pe_int)
      (Evl.pss_cut (ps_for PassesOwn.never rfl (pi_range2 (by rfl) T.z_range (pa_cons pe_int (pa_cons (pe_op op_add (pv 0) pe_int) pa_nil))) (pg_name (i := 3) sc__law_count.nd rfl (Or.inl rfl))
        (pss_one (ps_set (i := 2) sc__law_count.nd rfl (Or.inl rfl) (pe_op op_fdivN (pe_op op_mul (pv 2) (pe_op op_add (pv 1) (pv 3))) (pv 3)))))
      (pss_one (ps_ret (pv 2))))), ?_⟩
    refine ⟨fun σ H' => (∃ y3, σ = [some (.int n), some (.int d), some (.int (hm d n)), y3]) ∧ H' = H, ?_, ?_⟩
    · refine ⟨.int (n : Int), rfl, _, _, rfl, rfl, 1, (n : Int) + 1, rfl, ⟨by omega, by omega, by omega, by omega⟩, ?_⟩
      refine for_range (lo := 1) (n := ((n : Int) + 1 - 1).toNat) (fun i σ H' => (∃ y3, σ = [some (.int n), some (.int d), some (.int (hm d i)), y3]) ∧ H' = H) ⟨⟨_, rfl⟩, rfl⟩ (fun i σ H' hi h => ?_) (fun σ H' h => ?_)
      · obtain ⟨⟨y3, rfl⟩, rfl⟩ := h
        refine ⟨.int (hm d i), rfl, .int d, rfl, .int (1 + (i : Int)), rfl, _, _, rfl, rfl, _, _, rfl, rfl, .inr ⟨by omega, by omega⟩, .int (1 + (i : Int)), rfl, _, _, rfl, rfl, ⟨by omega, by omega⟩, ⟨_, rfl⟩, rfl⟩
      · have e : ((n : Int) + 1 - 1).toNat = n := by omega
        rw [e] at h
        exact h
    · rintro σ H' ⟨⟨y3, rfl⟩, rfl⟩
      exact ⟨_, rfl, q⟩

/-! ### boxes_row -/
theorem ok_boxes_row {k : Nat} (T : Txt K mg) : FnOk P w K mg base CX0 (k + 2) T.f_boxes_row T.fd_boxes_row ["n", "d", "boxes"] (sp_boxes_row K) := by
  have G_products : FnOk P w K mg base CX0 1 T.f_products T.fd_products ["n", "d"] (sp_products K) := ok_products T
  refine T.F_boxes_row.ok sc_boxes_row (fun vs H Q E h => ?_) (fun cdv A outer s H vs Q E hr h => ?_)
  · obtain ⟨n, d, bs, v, F, rfl, _⟩ := h
    rfl
  · obtain ⟨n, d, bs, v, F, rfl, hF, hv, hbl, hn, d0, d6, hbb, q⟩ := h
    obtain ⟨a, rfl, ha⟩ := hv.ti_inv
    refine ⟨_, (pss_cons (ps_set (i := 3) sc_boxes_row.nd rfl (Or.inl rfl) (pe_lst pa_nil))
      (Evl.pss_cut (ps_for PassesOwn.never rfl (pi_listK (K := K) (pe_call G_products (hr.mono (by omega)) (by rfl) T.g_products T.F_products.kp T.b_products .nil pass0 (pa_cons (pv 0) (pa_cons (pv 1) pa_nil)))) (pg_name (i := 4) sc_boxes_row.nd rfl (Or.inl rfl))
        (pss_cons (ps_set (i := 5) sc_boxes_row.nd rfl (Or.inl rfl) pe_int)
        (Evl.pss_cut (ps_for PassesOwn.never rfl (pi_zipM .T .T (K := K) (by rfl) T.z_zip (pa_cons (pv 2) (pa_cons (pv 4) pa_nil))) (pg_tupK (K := K) rfl (pgs_cons (pg_name (i := 6) sc_boxes_row.nd rfl (Or.inl rfl)) (pgs_cons (pg_name (i := 7) sc_boxes_row.nd rfl (Or.inl rfl)) pgs_nil)))
          (pss_one (ps_for PassesOwn.never rfl (pi_range1 (by rfl) T.z_range (pa_cons (pv 7) pa_nil)) (pg_name (i := 8) sc_boxes_row.nd rfl (Or.inl rfl))
            (pss_one (ps_set (i := 5) sc_boxes_row.nd rfl (Or.inl rfl) (pe_op op_mul (pv 5) (pv 6)))))))
        (pss_one (ps_expr (pe_bmK (K := K) PySem.F.plainAttrs_list PySem.F.slot_list_append PySem.F.type_list_append mt_append (pv 3) (pa_cons (pv 5) pa_nil)))))))
      (pss_one (ps_ret (pe_callTy (call_tupleK (K := K)) (by rfl) T.z_tuple bt_tuple (pa_cons (pv 3) pa_nil)))))), ?_⟩
    refine ⟨Nat.zero_le _, fun pf npf => ?_⟩
    have g0 : Gr NoS F H F (upd H pf (.lst [])) := (Gr.refl hF).newm npf
    have nfF : F pf = none := sub_none hF npf
    refine ⟨fun σ H' => σ[3]? = some (some (.ref pf)) ∧ ∃ F' xs, Gr NoS F H F' H' ∧ H' pf = some (.lst xs) ∧ DpAll K F' xs ((rowL n d bs).map PyData.int), ?_, ?_⟩
    · refine ⟨.int n, rfl, .int d, rfl, n, d, F, rfl, g0.sub, hn, d0, d6, fun p xs F1 H1 np g1 nF1 hp hd => ?_⟩
      have hxl : xs.length = (prods n d).length := by rw [DpAll.length hd, List.length_map]
      have hpl : (prods n d).length ≤ 117649 := by rw [prods_len]; exact raw_len6 d0 d6 hn
      have gg := g0.trans g1
      obtain ⟨nf1, hf1⟩ := g1.keepm (fun h => h) nfF upd_same
      refine ⟨p, rfl, ⟨_, SqL.of hp⟩, for_list (K := K) (a := p) (xs := xs) (fun j σ H' => ∃ F' y4 y5 y6 y7 y8, σ = [some (.int n), some (.int d), some (.ref a), some (.ref pf), y4, y5, y6, y7, y8] ∧ Gr NoS F H F' H' ∧ Ex F1 F' ∧ F' p = none ∧ H' p = some (.lst xs) ∧ F' pf = none ∧ H' pf = some (.lst (((rowL n d bs).take j).map V.int))) ⟨F1, _, _, _, _, _, rfl, gg, Evl.Ex.refl _, nF1, hp, nf1, hf1⟩ (fun j σ H' _ h => ?_) (fun j x σ H' hx h => ?_) (fun σ H' h => ?_)⟩
      · obtain ⟨F', y4, y5, y6, y7, y8, _, _, _, _, h, _⟩ := h
        exact SqL.of h
      · obtain ⟨F2, y4, y5, y6, y7, y8, rfl, g2, x2, nF2, hp2, nf2, hf2⟩ := h
        obtain ⟨dd, ed, hdd⟩ := DpAll.get hd hx
        rw [List.getElem?_map] at ed
        obtain ⟨pr, ep, rfl⟩ := Option.map_eq_some_iff.mp ed
        obtain ⟨b, rfl, hb⟩ := hdd.ti_inv
        obtain ⟨r1, r2, r3, r4⟩ := prods_ok d0 (List.mem_of_getElem? ep)
        have hjl : j < (prods n d).length := (List.getElem?_eq_some_iff.mp ep).1
        -- worth = 1
        refine ⟨fun σ H3 => (∃ y6 y7 y8, σ = [some (.int n), some (.int d), some (.ref a), some (.ref pf), some (.ref b), some (.int (wL (bs.zip pr))), y6, y7, y8]) ∧ Gr NoS F2 H' F2 H3, ?_, ?_⟩
        · have hN : n = min (bs.map V.int).length (pr.map V.int).length := by rw [List.length_map, List.length_map, hbl, r1, Nat.min_self]
          refine ⟨.ref a, rfl, .ref b, rfl, a, b, bs.map V.int, pr.map V.int, rfl, ex_T (g2.fz.trans g2.sub) ha, ex_T (x2.trans g2.sub) hb, for_it (walk_zipM hN) (fun i σ H3 => (∃ y6 y7 y8, σ = [some (.int n), some (.int d), some (.ref a), some (.ref pf), some (.ref b), some (.int (wL ((bs.zip pr).take i))), y6, y7, y8]) ∧ Gr NoS F2 H' F2 H3) ⟨⟨_, _, _, rfl⟩, Gr.refl g2.sub⟩ (fun i σ H3 _ h => ⟨ex_T (g2.fz.trans h.2.sub) ha, ex_T (x2.trans h.2.sub) hb⟩) (fun i x σ H3 H4 hi h hy => ?_) (fun σ H3 h => ?_)⟩
          · obtain ⟨⟨y6, y7, y8, rfl⟩, g3⟩ := h
            obtain ⟨t, v1, v2, rfl, nt, rfl, e1, e2⟩ := hy
            obtain ⟨bx, eb, rfl⟩ := int_get e1
            obtain ⟨of, eo, rfl⟩ := int_get e2
            have o0 := r4 of (List.mem_of_getElem? eo)
            have hbx := hbb bx (List.mem_of_getElem? eb)
            have ole : of ≤ d := by
              have := le_sum r4 (List.mem_of_getElem? eo)
              omega
            refine ⟨t, _, rfl, SqT.of upd_same, rfl, _, _, rfl, _, [], rfl, rfl, ?_⟩
            refine ⟨.int of, rfl, of, rfl, by omega, by omega, for_range (lo := 0) (n := of.toNat) (fun m σ H5 => (∃ y8, σ = [some (.int n), some (.int d), some (.ref a), some (.ref pf), some (.ref b), some (.int (wL ((bs.zip pr).take i) * bx ^ m)), some (.int bx), some (.int of), y8]) ∧ H5 = upd H3 t (.tup [.int bx, .int of])) ⟨⟨_, by rw [Int.pow_zero, Int.mul_one]; rfl⟩, rfl⟩ (fun m σ H5 hm h => ?_) (fun σ H5 h => ?_)⟩
            · obtain ⟨⟨y8, rfl⟩, rfl⟩ := h
              refine ⟨_, rfl, .int bx, rfl, _, _, rfl, rfl, .inr ⟨by omega, by omega⟩, ⟨some (.int (0 + (m : Int))), ?_⟩, rfl⟩
              rw [Int.pow_succ, ← Int.mul_assoc]
              rfl
            · obtain ⟨⟨y8, rfl⟩, rfl⟩ := h
              refine ⟨⟨some (.int bx), some (.int of), y8, ?_⟩, g3.newm nt⟩
              rw [take_zip_snoc eb eo, wL_snoc]
          · have hfull : (bs.zip pr).take n = bs.zip pr := List.take_of_length_le (by rw [List.length_zip, hbl, r1]; omega)
            rw [hfull] at h
            exact h
        · rintro σ H3 ⟨⟨y6, y7, y8, rfl⟩, g3⟩
          obtain ⟨nf3, hf3⟩ := g3.keepm (fun h => h) nf2 hf2
          obtain ⟨np3, hp3⟩ := g3.keepm (fun h => h) nF2 hp2
          have hne : p ≠ pf := fun e => by rw [e, upd_same] at np; cases np
          have hrl : (rowL n d bs)[j]? = some (wL (bs.zip pr)) := by
            unfold rowL
            rw [List.getElem?_map, ep]
            rfl
          refine ⟨.ref pf, rfl, .inl ⟨rfl, _, SqL.of hf3⟩, _, rfl, pf, _, _, rfl, rfl, hf3, ?_, ?_⟩
          · rw [List.length_map, List.length_take]
            have : 117650 ≤ sizeLine := by decide
            have : (rowL n d bs).length = (prods n d).length := List.length_map _
            omega
          · refine ⟨F2, _, _, _, _, _, rfl, (g2.trans g3).mut npf nf3, x2, np3, by rw [upd_ne hne]; exact hp3, nf3, ?_⟩
            rw [upd_same, List.take_add_one, hrl, List.map_append]
            rfl
      · obtain ⟨F2, y4, y5, y6, y7, y8, rfl, g2, x2, nF2, hp2, nf2, hf2⟩ := h
        have hfull : (rowL n d bs).take xs.length = rowL n d bs := List.take_of_length_le (by rw [hxl]; exact Nat.le_of_eq (List.length_map _))
        rw [hfull] at hf2
        exact ⟨rfl, F2, _, g2, hf2, DpAll.ints _⟩
    · rintro σ H' ⟨e3, F', xs, g, hl, hd⟩
      exact ⟨.ref pf, e3, q.tuple g hl hd⟩
/-! ### map_row, row_map -/
theorem ok_map_row {k : Nat} (T : Txt K mg) : FnOk P w K mg base CX0 (k + 1) T.f_map_row T.fd_map_row ["told"] (sp_map_row K) := by
  refine T.F_map_row.ok sc_map_row (fun vs H Q E h => ?_) (fun cdv A outer s H vs Q E hr h => ?_)
  · obtain ⟨v, r, F, rfl, _⟩ := h
    rfl
  · obtain ⟨v, r, F, rfl, hF, hv, hlen, q⟩ := h
    obtain ⟨a, xs, rfl, ha, hxs⟩ := Dp.tup_inv hv
    refine ⟨_, (pss_cons (ps_set (i := 1) sc_map_row.nd rfl (Or.inl rfl) (pe_lst pa_nil))
      (Evl.pss_cut (ps_for PassesOwn.never rfl (pi_tupK (K := K) (pv 0)) (pg_name (i := 2) sc_map_row.nd rfl (Or.inl rfl))
        (pss_one (ps_expr (pe_bmK (K := K) PySem.F.plainAttrs_list PySem.F.slot_list_extend PySem.F.type_list_extend (mt_extK .T (K := K)) (pv 1) (pa_cons (pv 2) pa_nil)))))
      (pss_one (ps_ret (pe_callTy (call_tupleK (K := K)) (by rfl) T.z_tuple bt_tuple (pa_cons (pv 1) pa_nil)))))), ?_⟩
    refine ⟨Nat.zero_le _, fun pf npf => ?_⟩
    have nfF : F pf = none := sub_none hF npf
    have hxl : xs.length = r.length := by rw [DpAll.length hxs, List.length_map]
    refine ⟨fun σ H' => σ[1]? = some (some (.ref pf)) ∧ Gr NoS F H F H' ∧ H' pf = some (.lst (r.flatten.map V.int)), ?_, ?_⟩
    · refine ⟨.ref a, rfl, a, rfl, ⟨_, ex_T (hF.trans (Evl.Ex.new npf)) ha⟩, for_tup (K := K) (a := a) (xs := xs) (fun j σ H' => (∃ y2, σ = [some (.ref a), some (.ref pf), y2]) ∧ Gr NoS F H F H' ∧ H' pf = some (.lst (((r.take j).flatten).map V.int))) ⟨⟨_, rfl⟩, (Gr.refl hF).newm npf, upd_same⟩ (fun j σ H' _ h => ex_T h.2.1.sub ha) (fun j x σ H' hx h => ?_) (fun σ H' h => ?_)⟩
      · obtain ⟨⟨y2, rfl⟩, g, hp⟩ := h
        obtain ⟨dd, ed, hdd⟩ := DpAll.get hxs hx
        rw [List.getElem?_map] at ed
        obtain ⟨p, ep, rfl⟩ := Option.map_eq_some_iff.mp ed
        obtain ⟨b, rfl, hb⟩ := hdd.ti_inv
        have e1 : (r.take (j + 1)).flatten = (r.take j).flatten ++ p := by
          rw [List.take_add_one, ep, List.flatten_append]
          simp
        refine ⟨.ref pf, rfl, .inl ⟨rfl, _, SqL.of hp⟩, .ref b, rfl, pf, b, _, _, rfl, rfl, hp, ex_T g.sub hb, ?_, ⟨_, rfl⟩, g.mut npf nfF, ?_⟩
        · have h2 : (r.take (j + 1)).flatten.length ≤ r.flatten.length := by
            rw [← List.take_append_drop (j + 1) r, List.flatten_append, List.length_append, List.take_append_drop]
            omega
          rw [e1, List.length_append] at h2
          rw [List.length_map, List.length_map]
          exact Nat.le_trans (show _ ≤ 10000 by omega) (by decide)
        · rw [upd_same, e1, List.map_append]
      · obtain ⟨⟨y2, rfl⟩, g, hp⟩ := h
        rw [hxl, List.take_of_length_le (Nat.le_refl _)] at hp
        exact ⟨rfl, g, hp⟩
    · rintro σ H' ⟨e1, g, hl⟩
      exact ⟨.ref pf, e1, q.tuple g hl (DpAll.ints _)⟩
theorem ok_row_map {k : Nat} (T : Txt K mg) : FnOk P w K mg base CX0 (k + 1) T.f_row_map T.fd_row_map ["many", "row"] (sp_row_map K) := by
  refine T.F_row_map.ok sc_row_map (fun vs H Q E h => ?_) (fun cdv A outer s H vs Q E hr h => ?_)
  · obtain ⟨v, r, m, F, rfl, _⟩ := h
    rfl
  · obtain ⟨v, r, m, F, rfl, hF, hv, hr0, hr1, hm, hrm, q⟩ := h
    obtain ⟨a, rfl, ha⟩ := hv.ti_inv
    refine ⟨_, (pss_cons (ps_set (i := 2) sc_row_map.nd rfl (Or.inr rfl) (pe_op op_fdivN (pe_callB (call_lenK (K := K)) (by rfl) T.z_len bt_len (pa_cons (pv 1) pa_nil)) (pv 0)))
      (pss_one (ps_ret (pe_callTy (call_tupleK (K := K)) (by rfl) T.z_tuple bt_tuple (pa_cons (pe_lc (own := [("k", 3)]) (g := gName 3) (tt := tYes) rfl sc_row_map.nd (pi_range1 (by rfl) T.z_range (pa_cons (pv 0) pa_nil)) (blkOk_by (own := [("k", 3)]) (N := nm_row_map) (sc := defScope st_row_map) (by decide +kernel)) (fun _ _ _ _ _ => (pg_name (i := 3) sc_row_map.nd rfl (Or.inl rfl))) (fun _ _ _ _ _ => pts_nil) (fun _ _ _ _ _ => (pe_callTy (call_tupleK (K := K)) (by rfl) T.z_tuple bt_tuple (pa_cons (pe_slice (sl_tupK (K := K)) (pv 1) (po_some (pe_op op_mul (pv 3) (pv 2))) (po_some (pe_op op_mul (pe_op op_add (pv 3) pe_int) (pv 2)))) pa_nil)))) pa_nil))))), ?_⟩
    have hfl := flat_len_eq hrm
    have hw : ((r.flatten.length : Nat) : Int).fdiv (r.length : Int) = (m : Int) := by
      rw [Int.fdiv_eq_ediv_of_nonneg _ (by omega), hfl]
      push_cast
      rw [Int.mul_ediv_cancel_left _ (by omega)]
    refine ⟨.ref a, rfl, a, _, rfl, .inr (ex_T hF ha), .int (r.length : Int), rfl, _, _, rfl, rfl, ⟨by omega, by omega⟩, ?_⟩
    dsimp only
    rw [List.length_map, hw]
    refine ⟨.int (r.length : Int), rfl, (r.length : Int), rfl, by omega, by omega, fun D nD => ?_⟩
    have nDF : F D = none := sub_none hF nD
    refine lc_range (lo := 0) (n := (r.length : Int).toNat) (fun j H' => ∃ F' xs, Gr NoS F H F' H' ∧ F' D = none ∧ H' D = some (.lst xs) ∧ DpAll K F' xs ((r.take j).map ti)) ⟨F, [], (Gr.refl hF).newm nD, nDF, upd_same, .nil⟩ (fun j H' hj h => ?_) (fun H' h => ?_)
    · obtain ⟨F', xs, g, nf, hD, hx⟩ := h
      have hjl : j < r.length := by omega
      have ep : r[j]? = some r[j] := List.getElem?_eq_getElem hjl
      have hxl : xs.length < sizeLine := by
        rw [DpAll.length hx, List.length_map, List.length_take]
        exact small1000 (by omega)
      have z0 : (0 : Int) + (j : Int) = j := by omega
      have b1 : (0 + (j : Int)) * (m : Int) = ((j * m : Nat) : Int) := by rw [z0]; push_cast; rfl
      have b2 : (0 + (j : Int) + 1) * (m : Int) = (((j + 1) * m : Nat) : Int) := by rw [z0]; push_cast; rfl
      have hbd : (j + 1) * m ≤ r.flatten.length := by
        rw [hfl]
        exact Nat.mul_le_mul_right m hjl
      have hbd0 : j * m ≤ (j + 1) * m := Nat.mul_le_mul_right m (by omega)
      have hcut : cutV (r.flatten.map V.int) (some ((0 + (j : Int)) * (m : Int))) (some ((0 + (j : Int) + 1) * (m : Int))) = r[j].map V.int := by
        rw [b1, b2, cut_nat _ (by rw [List.length_map]; exact hbd), List.length_map, Nat.min_eq_left (by omega), ← List.map_drop, ← List.map_take]
        have e5 : (j + 1) * m - j * m = m := by rw [Nat.succ_mul]; omega
        rw [e5, flat_cut hrm ep]
      have haH := ex_T (g.fz.trans g.sub) ha
      have fin : ∀ (t : Addr) (F5 H5 : Hp), Gr NoS F H F5 H5 → F5 D = none → H5 D = some (.lst xs) → Ex F' F5 → SqT K F5 t (r[j].map V.int) →
          ∃ acc, H5 D = some (.lst acc) ∧ acc.length < sizeLine ∧ ∃ F' xs, Gr NoS F H F' (upd H5 D (.lst (acc ++ [.ref t]))) ∧ F' D = none ∧ (upd H5 D (.lst (acc ++ [.ref t]))) D = some (.lst xs) ∧ DpAll K F' xs ((r.take (j + 1)).map ti) := fun t F5 H5 g5 n5 h5 x5 ht => by
        refine ⟨xs, h5, hxl, F5, xs ++ [.ref t], g5.mut nD n5, n5, upd_same, ?_⟩
        rw [List.take_add_one, ep, List.map_append]
        exact (hx.ex x5).snoc (Dp.of_ti ht)
      refine ⟨rfl, .ref a, rfl, .int (0 + (j : Int)), rfl, .int (m : Int), rfl, _, _, rfl, rfl, .inr ⟨by omega, by omega⟩, _, rfl, .int (0 + (j : Int)), rfl, _, _, rfl, rfl, .int (m : Int), rfl, _, _, rfl, rfl, .inr ⟨by omega, by omega⟩, _, rfl, a, _, rfl, haH, fun hwhole => ?_, fun hpart t nt => ?_⟩
      · refine ⟨a, _, rfl, .inr ⟨haH, fin a F' H' g nf hD (Evl.Ex.refl _) ?_⟩⟩
        have e6 : r[j].map V.int = r.flatten.map V.int := by
          rw [← hcut]
          unfold cutV
          rw [hwhole.1, hwhole.2, List.drop_zero, Nat.sub_zero, List.take_length]
        rw [e6]
        exact ex_T g.fz ha
      · have g5 := g.new (o := .tup (cutV (r.flatten.map V.int) (some ((0 + (j : Int)) * (m : Int))) (some ((0 + (j : Int) + 1) * (m : Int))))) nt
        have ne : D ≠ t := ne_of_none hD nt
        refine ⟨t, _, rfl, .inr ⟨SqT.of upd_same, fin t _ _ g5 (by rw [upd_ne ne]; exact nf) (by rw [upd_ne ne]; exact hD) (Evl.Ex.new (sub_none g.sub nt)) (SqT.of ?_)⟩⟩
        rw [upd_same, hcut]
    · obtain ⟨F', xs, g, nf, hD, hx⟩ := h
      rw [Int.toNat_natCast, List.take_of_length_le (Nat.le_refl _)] at hx
      exact q.tuple g hD hx

/-! ### the law's own -/
/-- whether a row is a tuple of so many whole numbers: it is -/
def sp_whole (K : PySem.W.Frag) : Sp := fun vs H Q _ => ∃ (v : V) (r : List Int) (F : Hp), vs = [v, .int (r.length : Int)] ∧ Ex F H ∧ Dp K F v (ti r) ∧ r.length ≤ 10000 ∧ ∀ H', Ex H H' → Q (.bl true) H'
theorem ty_tuple {K : PySem.W.Frag} {H : Hp} {a : Addr} {xs : List V} (h : SqT K H a xs) : TyX K H (.ref a) (.type "tuple") := by
  rcases h with (h | ⟨o, h⟩) | ⟨o, its, n, h1, h2, _⟩
  · exact .base (.tup h)
  · exact .fTuple h
  · exact .kTuple h1 h2
theorem ok_whole {k : Nat} (T : Txt K mg) : FnOk P w K mg base CX0 (k + 1) T.f__law_whole_row T.fd__law_whole_row ["_law_row", "_law_many"] (sp_whole K) := by
  refine T.F__law_whole_row.ok sc__law_whole_row (fun vs H Q E h => ?_) (fun cdv A outer s H vs Q E hr h => ?_)
  · obtain ⟨v, r, F, rfl, _⟩ := h
    rfl
  · obtain ⟨v, r, F, rfl, hF, hv, hl, q⟩ := h
    obtain ⟨a, rfl, ha⟩ := hv.ti_inv
    have haH := ex_T hF ha
    refine ⟨_, (pss_cons (ps_if (PW.pt (pw_or (pt_not (pt_val (pe_callB (call_isiK' (K := K)) (by rfl) T.z_isinstance bt_isinstance (pa_cons (pv 0) (pa_cons (pe_bltn (v := .ty "tuple") (by rfl) T.z_tuple (by decide +kernel) rfl) pa_nil))))) (pw_or1 (pt_cmpR op_ne (pe_callB (call_lenK (K := K)) (by rfl) T.z_len bt_len (pa_cons (pv 0) pa_nil)) (pv 1) (nomark _))))) (pss_one (ps_ret pe_bl)) pss_nil)
      (pss_one (ps_ret (pe_callB (cr_allK (K := K) rfl) (by rfl) T.z_all bt_all (pa_cons (pe_lc (own := [("_law_number", 2)]) (g := gName 2) (tt := tYes) rfl sc__law_whole_row.nd (pi_tupK (K := K) (pv 0)) (blkOk_by (own := [("_law_number", 2)]) (N := nm__law_whole_row) (sc := defScope st__law_whole_row) (by decide +kernel)) (fun _ _ _ _ _ => (pg_name (i := 2) sc__law_whole_row.nd rfl (Or.inl rfl))) (fun _ _ _ _ _ => pts_nil) (fun _ _ _ _ _ => (pe_and (pe_callB (call_isiK' (K := K)) (by rfl) T.z_isinstance bt_isinstance (pa_cons (pv 2) (pa_cons (pe_bltn (v := .ty "int") (by rfl) T.z_int (by decide +kernel) rfl) pa_nil))) (pe_one (pe_not (pe_callB (call_isiK' (K := K)) (by rfl) T.z_isinstance bt_isinstance (pa_cons (pv 2) (pa_cons (pe_bltn (v := .ty "bool") (by rfl) T.z_bool (by decide +kernel) rfl) pa_nil)))))))) pa_nil))))), ?_⟩
    refine ⟨.ref a, rfl, .ref a, .ty "tuple", .type "tuple", .type "tuple", true, rfl, .ty _, ty_tuple haH, kit_ty (by decide +kernel), true, rfl, iteF ?_⟩
    refine ⟨.ref a, rfl, a, _, rfl, .inr haH, .int (r.length : Int), rfl, rfl, _, rfl, ?_⟩
    rw [List.length_map, decide_eq_true rfl]
    refine iteF ?_
    refine ⟨.ref a, rfl, a, rfl, ⟨_, haH⟩, fun D nD => ?_⟩
    refine lc_it (walk_tup (K := K) (a := a) (xs := r.map V.int)) (fun i H' => Ex H H' ∧ H' D = some (.lst ((List.replicate i true).map V.bl))) ⟨Evl.Ex.new nD, upd_same⟩ (fun i H' _ h => ex_T (hF.trans h.1) ha) (fun i x H' H'' hi h y => ?_) (fun H' h => ?_)
    · obtain ⟨rfl, hx⟩ := y
      obtain ⟨z, ez, rfl⟩ := int_get hx
      rw [List.length_map] at hi
      refine ⟨rfl, .int z, rfl, .int z, .ty "int", .type "int", .type "int", true, rfl, .ty _, .base (.int _), kit_ty (by decide +kernel), true, rfl, iteT ?_⟩
      refine ⟨.int z, rfl, .int z, .ty "bool", .type "int", .type "bool", false, rfl, .ty _, .base (.int _), kit_ty (by decide +kernel), false, rfl, _, h.2, ?_, Evl.Ex.mut h.1 nD, ?_⟩
      · rw [List.length_map, List.length_replicate]
        exact Nat.lt_of_lt_of_le (show i < 10000 by omega) (by decide)
      · rw [upd_same, List.replicate_succ', List.map_append]
        rfl
    · refine ⟨D, _, rfl, SqL.of h.2, ?_⟩
      have e : (List.replicate (r.map V.int).length true).all id = true := by simp
      rw [e]
      exact q _ h.1
def sp_law_worth (K : PySem.W.Frag) : Sp := fun vs H Q _ => ∃ (v1 v2 : V) (p bs : List Int) (F : Hp), vs = [v1, v2] ∧ Ex F H ∧ Dp K F v1 (ti p) ∧ Dp K F v2 (ti bs) ∧ bs.length = p.length ∧ (∀ x ∈ bs, -1000000 ≤ x ∧ x ≤ 1000000) ∧ (∀ x ∈ p, 0 ≤ x ∧ x ≤ 6) ∧
  ∀ H', Ex H H' → Q (.int (wL (bs.zip p))) H'
theorem ok_law_worth {k : Nat} (T : Txt K mg) : FnOk P w K mg base CX0 (k + 1) T.f__law_worth T.fd__law_worth ["_law_product", "_law_boxes"] (sp_law_worth K) := by
  refine T.F__law_worth.ok sc__law_worth (fun vs H Q E h => ?_) (fun cdv A outer s H vs Q E hr h => ?_)
  · obtain ⟨v1, v2, p, bs, F, rfl, _⟩ := h
    rfl
  · obtain ⟨v1, v2, p, bs, F, rfl, hF, h1, h2, hl, hbb, hpp, q⟩ := h
    obtain ⟨a, rfl, ha⟩ := h1.ti_inv
    obtain ⟨b, rfl, hb⟩ := h2.ti_inv
    refine ⟨_, (pss_cons (ps_set (i := 2) sc__law_worth.nd rfl (Or.inl rfl) pe_int)
      (Evl.pss_cut (ps_for PassesOwn.never rfl (pi_zipM .T .T (K := K) (by rfl) T.z_zip (pa_cons (pv 0) (pa_cons (pv 1) pa_nil))) (pg_tupK (K := K) rfl (pgs_cons (pg_name (i := 3) sc__law_worth.nd rfl (Or.inl rfl)) (pgs_cons (pg_name (i := 4) sc__law_worth.nd rfl (Or.inl rfl)) pgs_nil)))
        (pss_one (ps_for PassesOwn.never rfl (pi_range1 (by rfl) T.z_range (pa_cons (pv 3) pa_nil)) (pg_name (i := 5) sc__law_worth.nd rfl (Or.inl rfl))
          (pss_one (ps_set (i := 2) sc__law_worth.nd rfl (Or.inl rfl) (pe_op op_mul (pv 2) (pv 4)))))))
      (pss_one (ps_ret (pv 2))))), ?_⟩
    refine ⟨fun σ H' => σ[2]? = some (some (.int (wL (bs.zip p)))) ∧ Ex H H', ?_, ?_⟩
    · have hN : p.length = min (p.map V.int).length (bs.map V.int).length := by rw [List.length_map, List.length_map, hl, Nat.min_self]
      refine ⟨.ref a, rfl, .ref b, rfl, a, b, p.map V.int, bs.map V.int, rfl, ex_T hF ha, ex_T hF hb, for_it (walk_zipM hN) (fun i σ H3 => (∃ y3 y4 y5, σ = [some (.ref a), some (.ref b), some (.int (wL ((bs.zip p).take i))), y3, y4, y5]) ∧ Ex H H3) ⟨⟨_, _, _, rfl⟩, Evl.Ex.refl H⟩ (fun i σ H3 _ h => ⟨ex_T (hF.trans h.2) ha, ex_T (hF.trans h.2) hb⟩) (fun i x σ H3 H4 hi h hy => ?_) (fun σ H3 h => ?_)⟩
      · obtain ⟨⟨y3, y4, y5, rfl⟩, x3⟩ := h
        obtain ⟨t, v1, v2, rfl, nt, rfl, e1, e2⟩ := hy
        obtain ⟨of, eo, rfl⟩ := int_get e1
        obtain ⟨bx, eb, rfl⟩ := int_get e2
        have ho := hpp of (List.mem_of_getElem? eo)
        have hbx := hbb bx (List.mem_of_getElem? eb)
        refine ⟨t, _, rfl, SqT.of upd_same, rfl, _, _, rfl, _, [], rfl, rfl, ?_⟩
        refine ⟨.int of, rfl, of, rfl, by omega, by omega, for_range (lo := 0) (n := of.toNat) (fun m σ H5 => (∃ y5, σ = [some (.ref a), some (.ref b), some (.int (wL ((bs.zip p).take i) * bx ^ m)), some (.int of), some (.int bx), y5]) ∧ H5 = upd H3 t (.tup [.int of, .int bx])) ⟨⟨_, by rw [Int.pow_zero, Int.mul_one]; rfl⟩, rfl⟩ (fun m σ H5 hm h => ?_) (fun σ H5 h => ?_)⟩
        · obtain ⟨⟨y5, rfl⟩, rfl⟩ := h
          refine ⟨_, rfl, .int bx, rfl, _, _, rfl, rfl, .inr ⟨by omega, by omega⟩, ⟨some (.int (0 + (m : Int))), ?_⟩, rfl⟩
          rw [Int.pow_succ, ← Int.mul_assoc]
          rfl
        · obtain ⟨⟨y5, rfl⟩, rfl⟩ := h
          refine ⟨⟨some (.int of), some (.int bx), y5, ?_⟩, x3.trans (Evl.Ex.new nt)⟩
          rw [take_zip_snoc eb eo, wL_snoc]
      · obtain ⟨⟨y3, y4, y5, rfl⟩, x3⟩ := h
        have hfull : (bs.zip p).take p.length = bs.zip p := List.take_of_length_le (by rw [List.length_zip, hl]; omega)
        rw [hfull]
        exact ⟨rfl, x3⟩
    · rintro σ H' ⟨e, x⟩
      exact ⟨_, e, q _ x⟩
/-- some number to 1,000 either way -/
def sp_number : Sp := fun vs H Q _ => ∃ (d l : Addr), vs = [.ref d] ∧ IsDeal H d l ∧ ∀ (x : Int) (H' : Hp), -1000 ≤ x → x ≤ 1000 → IsDeal H' d l → Kp d l H H' → Q (.int x) H'
theorem ok_number {k : Nat} (T : Txt K mg) : FnOk P w K mg base CX0 (k + 2) T.f__law_any_number T.fd__law_any_number ["_law_deal_here"] sp_number := by
  have G__law_draw : FnOk P w K mg base CX0 1 T.f__law_draw T.fd__law_draw ["_law_deal_here", "_law_many"] sp_draw := ok_draw T
  refine T.F__law_any_number.ok sc__law_any_number (fun vs H Q E h => ?_) (fun cdv A outer s H vs Q E hr h => ?_)
  · obtain ⟨d, l, rfl, _⟩ := h
    rfl
  · obtain ⟨d, l, rfl, D, q⟩ := h
    refine ⟨_, (pss_one (ps_ret (pe_ix (ix_listK (K := K)) (pe_lst (pa_cons (pe_op op_sub (pe_call G__law_draw (hr.mono (by omega)) (by rfl) T.g__law_draw T.F__law_draw.kp T.b__law_draw .nil pass0 (pa_cons (pv 0) (pa_cons pe_int pa_nil))) pe_int) (pa_cons (pe_op op_sub (pe_call G__law_draw (hr.mono (by omega)) (by rfl) T.g__law_draw T.F__law_draw.kp T.b__law_draw .nil pass0 (pa_cons (pv 0) (pa_cons pe_int pa_nil))) pe_int) pa_nil))) (pe_call G__law_draw (hr.mono (by omega)) (by rfl) T.g__law_draw T.F__law_draw.kp T.b__law_draw .nil pass0 (pa_cons (pv 0) (pa_cons pe_int pa_nil))) (fun _ _ => rfl)))), ?_⟩
    refine ⟨.ref d, rfl, d, l, 7, rfl, D, by decide, by decide, fun r H1 r0 r1 D1 k1 => ⟨_, _, rfl, rfl, .ref d, rfl, d, l, 2001, rfl, D1, by decide, by decide, fun r2 H2 s0 s1 D2 k2 => ⟨_, _, rfl, rfl, by show 2 ≤ sizeLine; decide, fun p np => ?_⟩⟩⟩
    obtain ⟨n1, n2⟩ := D2.nd np
    refine ⟨.ref d, rfl, d, l, 2, rfl, D2.upd n1 n2, by decide, by decide, fun r3 H3 t0 t1 D3 k3 => ?_⟩
    obtain ⟨v, ev, hv⟩ := at_in (xs := [.int (r - 3), .int (r2 - 1000)]) t0 (by simpa using t1)
    refine ⟨p, _, r3, v, rfl, rfl, SqL.of (k3 p _ n1 n2 upd_same), ev, ?_⟩
    have kk : Kp d l H H3 := ((k1.trans k2).trans (Kp.of_ex (Evl.Ex.new np))).trans k3
    simp only [List.mem_cons, List.not_mem_nil, or_false] at hv
    rcases hv with rfl | rfl
    · exact q _ _ (by omega) (by omega) D3 kk
    · exact q _ _ (by omega) (by omega) D3 kk

/-! ### once -/
theorem cnt1 : ∀ n : Fin 4, hm 1 n.val < 11 := by decide +kernel
theorem cnts : ∀ m : Fin 4, ∀ d : Fin 5, ∀ s : Fin 5, s.val ≤ d.val → hm (s.val : Int) m.val ≤ hm (d.val : Int) m.val ∧ 0 ≤ hm (s.val : Int) m.val := by decide +kernel
theorem cnt_mono {m : Nat} {s d : Int} (hm4 : m < 4) (s0 : 0 ≤ s) (sd : s ≤ d) (d4 : d ≤ 4) : hm s m ≤ hm d m ∧ 0 ≤ hm s m := by
  have h := cnts ⟨m, hm4⟩ ⟨d.toNat, by omega⟩ ⟨s.toNat, by omega⟩ (by show s.toNat ≤ d.toNat; omega)
  simp only [Int.toNat_of_nonneg s0, Int.toNat_of_nonneg (show 0 ≤ d by omega)] at h
  exact h
theorem rawls : ∀ n : Fin 4, ∀ d : Fin 5, (raw (d.val : Int) n.val).length ≤ 100 := by decide +kernel
theorem rawl {n : Nat} {d : Int} (hn : n < 4) (d1 : 1 ≤ d) (d4 : d ≤ 4) : (raw d n).length ≤ 10000 := by
  have h := rawls ⟨n, hn⟩ ⟨d.toNat, by omega⟩
  simp only [Int.toNat_of_nonneg (show 0 ≤ d by omega)] at h
  omega
theorem rawl1 {n : Nat} {d : Int} (hn : n < 4) (d1 : 1 ≤ d) (d4 : d ≤ 4) : (raw d n).length ≤ 100 := by
  have h := rawls ⟨n, hn⟩ ⟨d.toNat, by omega⟩
  simp only [Int.toNat_of_nonneg (show 0 ≤ d by omega)] at h
  omega
theorem rawps : ∀ n : Fin 4, ∀ d : Fin 5, 0 < (raw (d.val : Int) n.val).length := by decide +kernel
theorem rawp {n : Nat} {d : Int} (hn : n < 4) (d1 : 1 ≤ d) (d4 : d ≤ 4) : 0 < (raw d n).length := by
  have h := rawps ⟨n, hn⟩ ⟨d.toNat, by omega⟩
  simp only [Int.toNat_of_nonneg (show 0 ≤ d by omega)] at h
  omega
def sp_once : Sp := fun vs H Q _ => ∃ (d l : Addr), vs = [.ref d] ∧ IsDeal H d l ∧ ∀ (H' : Hp), IsDeal H' d l → Kp d l H H' → Q (.bl true) H'
abbrev F0 : Hp := fun _ => none
theorem ok_once {k : Nat} (T : Txt K mg) : FnOk P w K mg base CX0 (k + 3) T.f__law_once_right T.fd__law_once_right ["_law_deal_here"] sp_once := by
  have G__law_draw : FnOk P w K mg base CX0 1 T.f__law_draw T.fd__law_draw ["_law_deal_here", "_law_many"] sp_draw := ok_draw T
  have G__law_count : FnOk P w K mg base CX0 1 T.f__law_count T.fd__law_count ["_law_n", "_law_d"] sp_how_many := ok__law_count T
  have G__law_any_number : FnOk P w K mg base CX0 2 T.f__law_any_number T.fd__law_any_number ["_law_deal_here"] sp_number := ok_number T
  have G__law_products : FnOk P w K mg base CX0 1 T.f__law_products T.fd__law_products ["_law_n", "_law_d"] (sp_products K) := ok__law_products T
  have G_boxes_row : FnOk P w K mg base CX0 2 T.f_boxes_row T.fd_boxes_row ["n", "d", "boxes"] (sp_boxes_row K) := ok_boxes_row T
  have G__law_worth : FnOk P w K mg base CX0 1 T.f__law_worth T.fd__law_worth ["_law_product", "_law_boxes"] (sp_law_worth K) := ok_law_worth T
  have G__law_whole_row : FnOk P w K mg base CX0 1 T.f__law_whole_row T.fd__law_whole_row ["_law_row", "_law_many"] (sp_whole K) := ok_whole T
  have G_map_row : FnOk P w K mg base CX0 1 T.f_map_row T.fd_map_row ["told"] (sp_map_row K) := ok_map_row T
  have G_row_map : FnOk P w K mg base CX0 1 T.f_row_map T.fd_row_map ["many", "row"] (sp_row_map K) := ok_row_map T
  refine T.F__law_once_right.ok sc__law_once_right (fun vs H Q E h => ?_) (fun cdv A outer s H vs Q E hr h => ?_)
  · obtain ⟨d, l, rfl, _⟩ := h
    rfl
  · obtain ⟨d, l, rfl, D0, q⟩ := h
    refine ⟨_, (pss_cons (ps_asg (pe_tup (pa_cons (pe_call G__law_draw (hr.mono (by omega)) (by rfl) T.g__law_draw T.F__law_draw.kp T.b__law_draw .nil pass0 (pa_cons (pv 0) (pa_cons pe_int pa_nil))) (pa_cons (pe_call G__law_draw (hr.mono (by omega)) (by rfl) T.g__law_draw T.F__law_draw.kp T.b__law_draw .nil pass0 (pa_cons (pv 0) (pa_cons pe_int pa_nil))) pa_nil))) (pg_tupK (K := K) rfl (pgs_cons (pg_name (i := 1) sc__law_once_right.nd rfl (Or.inr rfl)) (pgs_cons (pg_name (i := 2) sc__law_once_right.nd rfl (Or.inr rfl)) pgs_nil))))
      (pss_cons (ps_setLc (i := 3) (own := [("_law_d", 4)]) (g := gName 4) rfl sc__law_once_right.nd rfl rfl (sw_true rfl rfl rfl (by decide +kernel)) (pi_tupK (K := K) (pe_tup (pa_cons pe_int (pa_cons pe_int (pa_cons pe_int (pa_cons pe_int pa_nil)))))) (blkOk_by (own := [("_law_d", 4)]) (N := nm__law_once_right) (sc := defScope st__law_once_right) (by decide +kernel)) (fun _ _ _ _ _ => (pg_name (i := 4) sc__law_once_right.nd rfl (Or.inl rfl))) (fun _ _ _ _ _ => (pts_one (PW.pt (pw_and (pt_cmpR op_lt (pe_call G__law_count (hr.mono (by omega)) (by rfl) T.g__law_count T.F__law_count.kp T.b__law_count .nil pass0 (pa_cons (pv 1) (pa_cons (pv 4) pa_nil))) pe_int (nomark _)) (pw_and1 (pt_cmpR op_lt (pe_call G__law_count (hr.mono (by omega)) (by rfl) T.g__law_count T.F__law_count.kp T.b__law_count .nil pass0 (pa_cons (pv 2) (pa_cons (pv 4) pa_nil))) pe_int (nomark _))))))) (fun _ _ _ _ _ => (pv 4)))
      (pss_cons (ps_set (i := 4) sc__law_once_right.nd rfl (Or.inl rfl) (pe_ix (ix_listK (K := K)) (pv 3) (pe_call G__law_draw (hr.mono (by omega)) (by rfl) T.g__law_draw T.F__law_draw.kp T.b__law_draw .nil pass0 (pa_cons (pv 0) (pa_cons (pe_callB (call_lenK (K := K)) (by rfl) T.z_len bt_len (pa_cons (pv 3) pa_nil)) pa_nil))) (fun _ _ => rfl)))
      (pss_cons (ps_set (i := 5) sc__law_once_right.nd rfl (Or.inr rfl) (pe_callTy (call_tupleK (K := K)) (by rfl) T.z_tuple bt_tuple (pa_cons (pe_lc (own := [("_law_k", 6)]) (g := gName 6) (tt := tYes) rfl sc__law_once_right.nd (pi_range1 (by rfl) T.z_range (pa_cons (pv 1) pa_nil)) (blkOk_by (own := [("_law_k", 6)]) (N := nm__law_once_right) (sc := defScope st__law_once_right) (by decide +kernel)) (fun _ _ _ _ _ => (pg_name (i := 6) sc__law_once_right.nd rfl (Or.inl rfl))) (fun _ _ _ _ _ => pts_nil) (fun _ _ _ _ _ => (pe_call G__law_any_number (hr.mono (by omega)) (by rfl) T.g__law_any_number T.F__law_any_number.kp T.b__law_any_number .nil pass0 (pa_cons (pv 0) pa_nil)))) pa_nil)))
      (pss_cons (ps_set (i := 7) sc__law_once_right.nd rfl (Or.inl rfl) (pe_call G_boxes_row (hr.mono (by omega)) (by rfl) T.g_boxes_row T.F_boxes_row.kp T.b_boxes_row .nil pass0 (pa_cons (pv 1) (pa_cons (pv 4) (pa_cons (pv 5) pa_nil)))))
      (pss_cons (ps_set (i := 8) sc__law_once_right.nd rfl (Or.inl rfl) (pe_callTy (call_tupleK (K := K)) (by rfl) T.z_tuple bt_tuple (pa_cons (pe_lc (own := [("_law_product", 9)]) (g := gName 9) (tt := tYes) rfl sc__law_once_right.nd (pi_listK (K := K) (pe_call G__law_products (hr.mono (by omega)) (by rfl) T.g__law_products T.F__law_products.kp T.b__law_products .nil pass0 (pa_cons (pv 1) (pa_cons (pv 4) pa_nil)))) (blkOk_by (own := [("_law_product", 9)]) (N := nm__law_once_right) (sc := defScope st__law_once_right) (by decide +kernel)) (fun _ _ _ _ _ => (pg_name (i := 9) sc__law_once_right.nd rfl (Or.inl rfl))) (fun _ _ _ _ _ => pts_nil) (fun _ _ _ _ _ => (pe_call G__law_worth (hr.mono (by omega)) (by rfl) T.g__law_worth T.F__law_worth.kp T.b__law_worth .nil pass0 (pa_cons (pv 9) (pa_cons (pv 5) pa_nil))))) pa_nil)))
      (pss_cons (ps_if (PW.pt (pw_or (pt_not (pt_val (pe_call G__law_whole_row (hr.mono (by omega)) (by rfl) T.g__law_whole_row T.F__law_whole_row.kp T.b__law_whole_row .nil pass0 (pa_cons (pv 7) (pa_cons (pe_callB (call_lenK (K := K)) (by rfl) T.z_len bt_len (pa_cons (pv 8) pa_nil)) pa_nil))))) (pw_or1 (pt_cmpR (op_neDK (K := K) hr.units) (pv 7) (pv 8) (nomark _))))) (pss_one (ps_ret pe_bl)) pss_nil)
      (pss_cons (ps_set (i := 10) sc__law_once_right.nd rfl (Or.inr rfl) (pe_call G__law_count (hr.mono (by omega)) (by rfl) T.g__law_count T.F__law_count.kp T.b__law_count .nil pass0 (pa_cons (pv 2) (pa_cons (pv 4) pa_nil))))
      (pss_cons (ps_set (i := 3) sc__law_once_right.nd rfl (Or.inl rfl) (pe_lst pa_nil))
      (Evl.pss_cut (ps_for PassesOwn.never rfl (pi_listK (K := K) (pe_call G__law_products (hr.mono (by omega)) (by rfl) T.g__law_products T.F__law_products.kp T.b__law_products .nil pass0 (pa_cons (pv 1) (pa_cons (pv 4) pa_nil)))) (pg_name (i := 9) sc__law_once_right.nd rfl (Or.inl rfl))
        (pss_cons (ps_set (i := 11) sc__law_once_right.nd rfl (Or.inl rfl) (pe_call G__law_count (hr.mono (by omega)) (by rfl) T.g__law_count T.F__law_count.kp T.b__law_count .nil pass0 (pa_cons (pv 2) (pa_cons (pe_callB (cr_sumT (K := K) rfl) (by rfl) T.z_sum bt_sum (pa_cons (pv 9) pa_nil)) pa_nil))))
        (pss_cons (ps_setLc (i := 12) (own := [("_law_j", 13)]) (g := gName 13) (tt := tYes) rfl sc__law_once_right.nd rfl rfl (sw_true rfl rfl rfl (by decide +kernel)) (pi_range1 (by rfl) T.z_range (pa_cons (pv 11) pa_nil)) (blkOk_by (own := [("_law_j", 13)]) (N := nm__law_once_right) (sc := defScope st__law_once_right) (by decide +kernel)) (fun _ _ _ _ _ => (pg_name (i := 13) sc__law_once_right.nd rfl (Or.inl rfl))) (fun _ _ _ _ _ => pts_nil) (fun _ _ _ _ _ => (pe_call G__law_any_number (hr.mono (by omega)) (by rfl) T.g__law_any_number T.F__law_any_number.kp T.b__law_any_number .nil pass0 (pa_cons (pv 0) pa_nil))))
        (pss_one (ps_expr (pe_bmK (K := K) PySem.F.plainAttrs_list PySem.F.slot_list_append PySem.F.type_list_append mt_append (pv 3) (pa_cons (pe_callTy (call_tupleK (K := K)) (by rfl) T.z_tuple bt_tuple (pa_cons (pe_op op_cat (pv 12) (pe_op op_rep (pe_lst (pa_cons pe_int pa_nil)) (pe_op op_sub (pv 10) (pv 11)))) pa_nil)) pa_nil)))))))
      (pss_cons (ps_set (i := 3) sc__law_once_right.nd rfl (Or.inl rfl) (pe_callTy (call_tupleK (K := K)) (by rfl) T.z_tuple bt_tuple (pa_cons (pv 3) pa_nil)))
      (pss_cons (ps_set (i := 14) sc__law_once_right.nd rfl (Or.inl rfl) (pe_call G_map_row (hr.mono (by omega)) (by rfl) T.g_map_row T.F_map_row.kp T.b_map_row .nil pass0 (pa_cons (pv 3) pa_nil)))
      (pss_cons (ps_set (i := 8) sc__law_once_right.nd rfl (Or.inl rfl) (pe_lst pa_nil))
      (Evl.pss_cut (ps_for PassesOwn.never rfl (pi_tupK (K := K) (pv 3)) (pg_name (i := 15) sc__law_once_right.nd rfl (Or.inl rfl))
        (pss_one (ps_expr (pe_bmK (K := K) PySem.F.plainAttrs_list PySem.F.slot_list_extend PySem.F.type_list_extend (mt_extK .T (K := K)) (pv 8) (pa_cons (pv 15) pa_nil)))))
      (pss_cons (ps_if (PW.pt (pw_or (pt_not (pt_val (pe_call G__law_whole_row (hr.mono (by omega)) (by rfl) T.g__law_whole_row T.F__law_whole_row.kp T.b__law_whole_row .nil pass0 (pa_cons (pv 14) (pa_cons (pe_callB (call_lenK (K := K)) (by rfl) T.z_len bt_len (pa_cons (pv 8) pa_nil)) pa_nil))))) (pw_or1 (pt_cmpR (op_neDK (K := K) hr.units) (pv 14) (pe_callTy (call_tupleK (K := K)) (by rfl) T.z_tuple bt_tuple (pa_cons (pv 8) pa_nil)) (nomark _))))) (pss_one (ps_ret pe_bl)) pss_nil)
      (pss_cons (ps_set (i := 16) sc__law_once_right.nd rfl (Or.inl rfl) (pe_call G_row_map (hr.mono (by omega)) (by rfl) T.g_row_map T.F_row_map.kp T.b_row_map .nil pass0 (pa_cons (pe_callB (call_lenK (K := K)) (by rfl) T.z_len bt_len (pa_cons (pv 3) pa_nil)) (pa_cons (pv 14) pa_nil))))
      (pss_one (ps_ret (pe_and (pe_callB (call_isiK' (K := K)) (by rfl) T.z_isinstance bt_isinstance (pa_cons (pv 16) (pa_cons (pe_bltn (v := .ty "tuple") (by rfl) T.z_tuple (by decide +kernel) rfl) pa_nil))) (pe_and (pe_cmpR (op_eqDK (K := K) hr.units) (pv 16) (pv 3) (nomark _)) (pe_one (pe_callB (cr_allK (K := K) rfl) (by rfl) T.z_all bt_all (pa_cons (pe_lc (own := [("_law_one", 15)]) (g := gName 15) (tt := tYes) rfl sc__law_once_right.nd (pi_tupK (K := K) (pv 16)) (blkOk_by (own := [("_law_one", 15)]) (N := nm__law_once_right) (sc := defScope st__law_once_right) (by decide +kernel)) (fun _ _ _ _ _ => (pg_name (i := 15) sc__law_once_right.nd rfl (Or.inl rfl))) (fun _ _ _ _ _ => pts_nil) (fun _ _ _ _ _ => (pe_call G__law_whole_row (hr.mono (by omega)) (by rfl) T.g__law_whole_row T.F__law_whole_row.kp T.b__law_whole_row .nil pass0 (pa_cons (pv 15) (pa_cons (pv 10) pa_nil))))) pa_nil))))))))))))))))))))))), ?_⟩
    -- n, m
    refine ⟨.ref d, rfl, d, l, 4, rfl, D0, by decide, by decide, fun n H1 n0 n1 D1 k1 => ⟨.ref d, rfl, d, l, 4, rfl, D1, by decide, by decide, fun m H2 m0 m1 D2 k2 => ⟨by show 2 ≤ sizeLine; decide, fun t nt => ?_⟩⟩⟩
    obtain ⟨n, rfl⟩ : ∃ n' : Nat, n = n' := ⟨n.toNat, (Int.toNat_of_nonneg n0).symm⟩
    obtain ⟨m, rfl⟩ : ∃ n' : Nat, m = n' := ⟨m.toNat, (Int.toNat_of_nonneg m0).symm⟩
    have hn4 : n < 4 := by omega
    have hm4 : m < 4 := by omega
    refine ⟨t, _, rfl, SqT.of upd_same, rfl, _, _, rfl, _, [], rfl, rfl, ?_⟩
    have D3 : IsDeal (upd H2 t (.tup [.int n, .int m])) d l := D2.upd (D2.nd nt).1 (D2.nd nt).2
    have k3 : Kp d l H (upd H2 t (.tup [.int n, .int m])) := (k1.trans k2).trans (Kp.of_ex (Evl.Ex.new nt))
    -- the degrees
    refine ⟨by show 4 ≤ sizeLine; decide, fun t4 nt4 => ⟨t4, rfl, ⟨_, SqT.of upd_same⟩, fun ps nps => ?_⟩⟩
    have x4 := Evl.Ex.new (o := .tup [.int 1, .int 2, .int 3, .int 4]) nt4
    have hps : t4 ≠ ps := ne_of_none upd_same nps
    refine lc_it (walk_tup (K := K) (a := t4) (xs := [.int 1, .int 2, .int 3, .int 4])) (fun i H' => Ex (upd H2 t (.tup [.int n, .int m])) H' ∧ H' t4 = some (.tup [.int 1, .int 2, .int 3, .int 4]) ∧ ∃ ds : List Int, H' ps = some (.lst (ds.map V.int)) ∧ ds.length ≤ i ∧ (0 < i → ds ≠ []) ∧ ∀ x ∈ ds, 1 ≤ x ∧ x ≤ 4 ∧ hm x n < 11 ∧ hm x m < 11) ⟨x4.trans (Evl.Ex.new nps), by rw [upd_ne hps, upd_same], [], upd_same, by simp, by omega, fun x hx => (by cases hx)⟩ (fun i H' _ h => SqT.of h.2.1) (fun i x H' H'' hi h y => ?_) (fun H' h => ?_)
    · obtain ⟨xx, h4, ds, hD, hl, hne, hds⟩ := h
      obtain ⟨rfl, hx⟩ := y
      have nH : (upd H2 t (.tup [.int n, .int m])) ps = none := Evl.fresh_back x4 nps
      obtain ⟨z, rfl, z1, z4, zi⟩ : ∃ z : Int, x = .int z ∧ 1 ≤ z ∧ z ≤ 4 ∧ z = (i : Int) + 1 := by
        have hi' : i = 0 ∨ i = 1 ∨ i = 2 ∨ i = 3 := by
          have : i < 4 := hi
          omega
        rcases hi' with rfl | rfl | rfl | rfl <;> (cases hx; exact ⟨_, rfl, by decide, by decide, by decide⟩)
      refine ⟨rfl, .int n, rfl, .int z, rfl, n, z, rfl, by omega, by omega, by omega, _, _, rfl, rfl, _, rfl, ite2 (fun e1 => ?_) (fun e1 => ?_)⟩
      · refine ⟨.int m, rfl, .int z, rfl, m, z, rfl, by omega, by omega, by omega, _, _, rfl, rfl, _, rfl, ite2 (fun e2 => ?_) (fun e2 => ?_)⟩
        · refine ⟨.int z, rfl, ds.map V.int, hD, small1000 (by rw [List.length_map]; have : i < 4 := hi; omega), Evl.Ex.mut xx nH, by rw [upd_ne hps]; exact h4, ds ++ [z], by rw [upd_same, List.map_append]; rfl, by rw [List.length_append]; show ds.length + 1 ≤ i + 1; omega, fun _ => by simp, fun y hy => ?_⟩
          rcases List.mem_append.mp hy with h | h
          · exact hds y h
          · rw [List.mem_singleton.mp h]
            exact ⟨z1, z4, of_decide_eq_true e1, of_decide_eq_true e2⟩
        · refine ⟨xx, h4, ds, hD, by omega, fun _ => ?_, hds⟩
          by_cases h0 : 0 < i
          · exact hne h0
          · exfalso
            apply e2
            have hz : z = 1 := by omega
            subst hz
            exact decide_eq_true (cnt1 ⟨m, hm4⟩)
      · refine iteF ⟨xx, h4, ds, hD, by omega, fun _ => ?_, hds⟩
        by_cases h0 : 0 < i
        · exact hne h0
        · exfalso
          apply e1
          have hz : z = 1 := by omega
          subst hz
          exact decide_eq_true (cnt1 ⟨n, hn4⟩)
    · obtain ⟨x5, _, ds, hD5, hl, hne, hds⟩ := h
      have D5 := D3.ex x5
      have k5 := k3.trans (Kp.of_ex x5)
      have hds0 : ds ≠ [] := hne (by decide)
      have hl4 : ds.length ≤ 4 := hl
      have hpos : 0 < ds.length := List.length_pos_iff.mpr hds0
      have nps2 := (D3.ex x4).nd nps
      refine ⟨.ref ps, rfl, .ref d, rfl, .ref ps, rfl, ps, _, rfl, .inl (SqL.of hD5), d, l, _, rfl, D5, by rw [List.length_map]; omega, by rw [List.length_map]; omega, fun r H6 r0 r1 D6 k6 => ?_⟩
      obtain ⟨v, ev, hv⟩ := at_in (xs := ds.map V.int) r0 r1
      obtain ⟨dd, hdd, rfl⟩ := List.mem_map.mp hv
      obtain ⟨d1, d4, cn, cm⟩ := hds dd hdd
      refine ⟨ps, _, r, _, rfl, rfl, SqL.of (k6 ps _ nps2.1 nps2.2 hD5), ev, ?_⟩
      have K6 := k5.trans k6
      -- the boxes
      refine ⟨.int n, rfl, (n : Int), rfl, by omega, by omega, fun B nB => ?_⟩
      have nBd := D6.nd nB
      refine lc_range (lo := 0) (n := (n : Int).toNat) (fun i H' => IsDeal H' d l ∧ Kp d l H6 H' ∧ ∃ bs : List Int, H' B = some (.lst (bs.map V.int)) ∧ bs.length = i ∧ ∀ x ∈ bs, -1000 ≤ x ∧ x ≤ 1000) ⟨D6.upd nBd.1 nBd.2, Kp.of_ex (Evl.Ex.new nB), [], upd_same, rfl, fun x hx => (by cases hx)⟩ (fun i H' hi h => ?_) (fun H7 h => ?_)
      · obtain ⟨D7, k7, bs, hB, el, hb⟩ := h
        refine ⟨rfl, .ref d, rfl, d, l, rfl, D7, fun x H8 x0 x1 D8 k8 => ⟨bs.map V.int, k8 B _ nBd.1 nBd.2 hB, small1000 (by rw [List.length_map]; omega), D8.upd nBd.1 nBd.2, (k7.trans k8).mut nB, bs ++ [x], by rw [upd_same, List.map_append]; rfl, by rw [List.length_append, el]; rfl, fun y hy => ?_⟩⟩
        rcases List.mem_append.mp hy with h | h
        · exact hb y h
        · rw [List.mem_singleton.mp h]; exact ⟨x0, x1⟩
      · obtain ⟨D7, k7, bs, hB, el, hb⟩ := h
        rw [Int.toNat_natCast] at el
        refine ⟨B, _, rfl, .inl ⟨SqL.of hB, fun tb ntb => ?_⟩⟩
        have W8 : Wr d l (upd F0 tb (.tup (bs.map V.int))) (upd H7 tb (.tup (bs.map V.int))) := (Wr.mk (d := d) (l := l) (F := F0) (H := H7) (fun _ _ e => by cases e) rfl rfl D7).new ntb
        have dbs : Dp K (upd F0 tb (.tup (bs.map V.int))) (.ref tb) (ti bs) := Dp.of_ti (SqT.of upd_same)
        have K8 : Kp d l H (upd H7 tb (.tup (bs.map V.int))) := (K6.trans k7).trans (Kp.of_ex (Evl.Ex.new ntb))
        generalize upd F0 tb (.tup (bs.map V.int)) = F8 at W8 dbs
        generalize upd H7 tb (.tup (bs.map V.int)) = H8 at W8 K8
        have hbb : ∀ x ∈ bs, -1000000 ≤ x ∧ x ≤ 1000000 := fun x hx => by have := hb x hx; omega
        -- found
        refine ⟨.int n, rfl, .int dd, rfl, .ref tb, rfl, n, dd, bs, .ref tb, F8, rfl, W8.sub, dbs, el, by omega, by omega, by omega, hbb, fun vf F9 H9 g9 hvf => ?_⟩
        have W9 := W8.gr g9
        have K9 := K8.trans g9.toKp
        -- due
        refine ⟨.int n, rfl, .int dd, rfl, n, dd, F9, rfl, W9.sub, by omega, by omega, by omega, fun p xs F10 H10 np g10 nF10 hp hd => ?_⟩
        have hxl : xs.length = (prods n dd).length := by rw [DpAll.length hd, List.length_map]
        have hpl : (prods n dd).length ≤ 117649 := by rw [prods_len]; exact raw_len6 (by omega) (by omega) (by omega)
        have hrl : (rowL n dd bs).length = (prods n dd).length := List.length_map _
        refine ⟨p, rfl, ⟨_, SqL.of hp⟩, fun DD nDD => ?_⟩
        have nDF : F10 DD = none := sub_none g10.sub nDD
        refine lc_list (K := K) (a := p) (xs := xs) (fun j H' => Gr NoS F10 H10 F10 H' ∧ H' DD = some (.lst (((rowL n dd bs).take j).map V.int))) ⟨(Gr.refl g10.sub).newm nDD, upd_same⟩ (fun j H' _ h => SqL.of (h.1.ex _ _ hp)) (fun j x H' hx h => ?_) (fun H11 h => ?_)
        · obtain ⟨g11, h11⟩ := h
          obtain ⟨d2, ed, hdd2⟩ := DpAll.get hd hx
          rw [List.getElem?_map] at ed
          obtain ⟨pr, ep, rfl⟩ := Option.map_eq_some_iff.mp ed
          obtain ⟨b, rfl, hb2⟩ := hdd2.ti_inv
          obtain ⟨r1', r2', r3', r4'⟩ := prods_ok (show 0 ≤ dd by omega) (List.mem_of_getElem? ep)
          have hjl : j < (prods n dd).length := (List.getElem?_eq_some_iff.mp ep).1
          refine ⟨rfl, .ref b, rfl, .ref tb, rfl, .ref b, .ref tb, pr, bs, F10, rfl, g11.sub, Dp.of_ti hb2, dbs.ex (g9.fz.trans g10.fz), by rw [el, r1'], hbb, fun x hx => ⟨r4' x hx, by have := le_sum r4' hx; omega⟩, fun H12 x12 => ?_⟩
          have erow : (rowL n dd bs)[j]? = some (wL (bs.zip pr)) := by
            unfold rowL
            rw [List.getElem?_map, ep]
            rfl
          refine ⟨_, x12 _ _ h11, ?_, ?_, ?_⟩
          · rw [List.length_map, List.length_take]
            have : 117650 ≤ sizeLine := by decide
            omega
          · exact (g11.trans (Gr.of_ex g11.sub x12)).mut nDD nDF
          · rw [upd_same, List.take_add_one, erow, List.map_append]
            rfl
        · obtain ⟨g11, h11⟩ := h
          have hfull : (rowL n dd bs).take xs.length = rowL n dd bs := List.take_of_length_le (by omega)
          rw [hfull] at h11
          refine ⟨DD, _, rfl, .inl ⟨SqL.of h11, fun td ntd => ?_⟩⟩
          have g12 := (g10.trans g11).new (o := .tup ((rowL n dd bs).map V.int)) ntd
          have ddue : Dp K (upd F10 td (.tup ((rowL n dd bs).map V.int))) (.ref td) (ti (rowL n dd bs)) := Dp.of_ti (SqT.of upd_same)
          generalize upd F10 td (.tup ((rowL n dd bs).map V.int)) = F12 at g12 ddue
          generalize upd H11 td (.tup ((rowL n dd bs).map V.int)) = H12 at g12
          have W12 := W9.gr g12
          have K12 := K9.trans g12.toKp
          have hvf12 := hvf.ex g12.fz
          obtain ⟨sd, esd, hsd⟩ := ddue.ti_inv
          cases esd
          refine ⟨vf, rfl, .ref td, rfl, td, _, rfl, .inr (ex_T g12.sub hsd), vf, rowL n dd bs, F12, by rw [List.length_map]; rfl, g12.sub, hvf12, by rw [hrl, prods_len]; exact rawl hn4 d1 d4, fun H13 x13 => ⟨true, rfl, iteF ?_⟩⟩
          have g13 := Gr.of_ex g12.sub x13
          refine ⟨vf, rfl, .ref td, rfl, _, _, hvf12.ex g13.sub, ddue.ex g13.sub, ti_shaped _, ti_shaped _, _, rfl, ?_⟩
          rw [eqv_refl _ (ti_shaped _)]
          refine iteF ?_
          have W13 := W12.gr g13
          have K13 := K12.trans g13.toKp
          -- wide, some
          refine ⟨.int m, rfl, .int dd, rfl, m, dd, rfl, by omega, by omega, by omega, Nat.zero_le _, fun pm npm => ?_⟩
          have nFm : F12 pm = none := sub_none W13.sub npm
          have npmd := W13.ne npm
          have W14 : Wr d l F12 (upd H13 pm (.lst [])) := W13.newm npm
          have K14 : Kp d l H (upd H13 pm (.lst [])) := K13.trans (Kp.of_ex (Evl.Ex.new npm))
          have nHm : H pm = none := K13.none npmd.1 npmd.2 npm
          have hwd := cnt_mono hm4 (show 0 ≤ dd by omega) (Int.le_refl dd) d4
          obtain ⟨wd, hwd2⟩ : ∃ wd : Nat, hm dd m = wd := ⟨(hm dd m).toNat, (Int.toNat_of_nonneg hwd.2).symm⟩
          have hwd10 : wd ≤ 10 := by omega
          refine ⟨fun σ H' => ∃ F' xs, ∃ rows : List (List Int), ∃ y9 y11 y12, σ = [some (.ref d), some (.int n), some (.int m), some (.ref pm), some (.int dd), some (.ref tb), none, some vf, some (.ref td), y9, some (.int (hm dd m)), y11, y12, none, none, none, none] ∧ Wr d l F' H' ∧ Kp d l H H' ∧ H' pm = some (.lst xs) ∧ DpAll K F' xs (rows.map ti) ∧ rows.length = (prods n dd).length ∧ ∀ r ∈ rows, r.length = wd, ?_, ?_⟩
          · refine ⟨.int n, rfl, .int dd, rfl, n, dd, F12, rfl, W14.sub, by omega, by omega, by omega, fun p2 xs2 F15 H15 np2 g15 nF15 hp2 hd2 => ?_⟩
            have W15 := W14.gr g15
            have K15 := K14.trans g15.toKp
            obtain ⟨nm15, hm15⟩ := g15.keepm (fun h => h) nFm upd_same
            have np2d := W14.ne np2
            have hxl2 : xs2.length = (prods n dd).length := by rw [DpAll.length hd2, List.length_map]
            have hne2 : p2 ≠ pm := fun e => by rw [e, upd_same] at np2; cases np2
            refine ⟨p2, rfl, ⟨_, SqL.of hp2⟩, for_list (K := K) (a := p2) (xs := xs2) (fun j σ H' => ∃ F' xs, ∃ rows : List (List Int), ∃ y9 y11 y12, σ = [some (.ref d), some (.int n), some (.int m), some (.ref pm), some (.int dd), some (.ref tb), none, some vf, some (.ref td), y9, some (.int (hm dd m)), y11, y12, none, none, none, none] ∧ Wr d l F' H' ∧ Kp d l H H' ∧ Ex F15 F' ∧ F' p2 = none ∧ H' p2 = some (.lst xs2) ∧ F' pm = none ∧ H' pm = some (.lst xs) ∧ DpAll K F' xs (rows.map ti) ∧ rows.length = j ∧ ∀ r ∈ rows, r.length = wd) ⟨F15, [], [], _, _, _, rfl, W15, K15, Evl.Ex.refl _, nF15, hp2, nm15, hm15, .nil, rfl, fun r hr => (by cases hr)⟩ (fun j σ H' _ h => ?_) (fun j x σ H' hx h => ?_) (fun σ H' h => ?_)⟩
            · obtain ⟨F', xs, rows, _, _, _, _, _, _, _, _, h, _⟩ := h
              exact SqL.of h
            · obtain ⟨F16, xs, rows, y9, y11, y12, rfl, W16, K16, x16, nF16, hp16, nm16, hm16, hrows, elr, hrl2⟩ := h
              obtain ⟨d3, ed, hdd3⟩ := DpAll.get hd2 hx
              rw [List.getElem?_map] at ed
              obtain ⟨pr, ep, rfl⟩ := Option.map_eq_some_iff.mp ed
              obtain ⟨b, rfl, hb3⟩ := hdd3.ti_inv
              obtain ⟨r1', r2', r3', r4'⟩ := prods_ok (show 0 ≤ dd by omega) (List.mem_of_getElem? ep)
              have hjl : j < (prods n dd).length := (List.getElem?_eq_some_iff.mp ep).1
              have hsh := cnt_mono hm4 r2' r3' d4
              obtain ⟨sh, hsh2⟩ : ∃ sh : Nat, hm pr.sum m = sh := ⟨(hm pr.sum m).toNat, (Int.toNat_of_nonneg hsh.2).symm⟩
              refine ⟨.int m, rfl, .ref b, rfl, b, pr, rfl, ex_T (x16.trans W16.sub) hb3, m, pr.sum, rfl, by omega, r2', by omega, ?_⟩
              refine ⟨.int (hm pr.sum m), rfl, hm pr.sum m, rfl, by omega, by omega, fun N nN => ?_⟩
              have nNd := W16.ne nN
              refine lc_range (lo := 0) (n := (hm pr.sum m).toNat) (fun i H'' => IsDeal H'' d l ∧ Kp d l H' H'' ∧ ∃ bs : List Int, H'' N = some (.lst (bs.map V.int)) ∧ bs.length = i) ⟨W16.deal.upd nNd.1 nNd.2, Kp.of_ex (Evl.Ex.new nN), [], upd_same, rfl⟩ (fun i H'' hi h => ?_) (fun H17 h => ?_)
              · obtain ⟨D7, k7, bs, hB, el⟩ := h
                exact ⟨rfl, .ref d, rfl, d, l, rfl, D7, fun x H8 x0 x1 D8 k8 => ⟨bs.map V.int, k8 N _ nNd.1 nNd.2 hB, small1000 (by rw [List.length_map]; omega), D8.upd nNd.1 nNd.2, (k7.trans k8).mut nN, bs ++ [x], by rw [upd_same, List.map_append]; rfl, by rw [List.length_append, el]; rfl⟩⟩
              · obtain ⟨D17, k17, ns, hN17, eln⟩ := h
                have W17 := W16.draw D17 k17
                have K17 := K16.trans k17
                have hm17 := k17 pm _ npmd.1 npmd.2 hm16
                have hp17 := k17 p2 _ np2d.1 np2d.2 hp16
                refine ⟨.ref pm, rfl, .inl ⟨rfl, _, SqL.of hm17⟩, .ref N, rfl, by show 1 ≤ sizeLine; decide, fun z nz => ?_⟩
                have W18 : Wr d l F16 (upd H17 z (.lst [.int 0])) := W17.newm nz
                have x18 := Evl.Ex.new (o := .lst [V.int 0]) nz
                refine ⟨.int (hm dd m), rfl, .int (hm pr.sum m), rfl, _, _, rfl, rfl, z, hm dd m - hm pr.sum m, [.int 0], rfl, rfl, upd_same, by omega, by omega, ?_, fun zz nzz => ?_⟩
                · show 1 * _ ≤ sizeLine
                  exact Nat.le_of_lt (small1000 (by omega))
                have x19 := Evl.Ex.new (o := .lst (List.replicate (hm dd m - hm pr.sum m).toNat [V.int 0]).flatten) nzz
                have W19 : Wr d l F16 (upd (upd H17 z (.lst [.int 0])) zz (.lst (List.replicate (hm dd m - hm pr.sum m).toNat [V.int 0]).flatten)) := W18.newm nzz
                refine ⟨N, zz, _, _, rfl, rfl, x19 _ _ (x18 _ _ hN17), upd_same, ?_, fun cc ncc => ?_⟩
                · have e1 := congrArg List.length (rep_zero [] (hm dd m - hm pr.sum m).toNat)
                  simp only [List.map_nil, List.nil_append, List.length_map, List.length_replicate] at e1
                  rw [List.length_map, e1]
                  exact Nat.le_of_lt (small1000 (by omega))
                dsimp only
                rw [rep_zero]
                have W20 : Wr d l F16 (upd (upd (upd H17 z (.lst [.int 0])) zz (.lst (List.replicate (hm dd m - hm pr.sum m).toNat [V.int 0]).flatten)) cc (.lst ((ns ++ List.replicate (hm dd m - hm pr.sum m).toNat 0).map V.int))) := W19.newm ncc
                have x20 := Evl.Ex.new (o := .lst ((ns ++ List.replicate (hm dd m - hm pr.sum m).toNat 0).map V.int)) ncc
                have X20 := (x18.trans x19).trans x20
                have hcc : (upd (upd (upd H17 z (.lst [.int 0])) zz (.lst (List.replicate (hm dd m - hm pr.sum m).toNat [V.int 0]).flatten)) cc (.lst ((ns ++ List.replicate (hm dd m - hm pr.sum m).toNat 0).map V.int))) cc = some (.lst ((ns ++ List.replicate (hm dd m - hm pr.sum m).toNat 0).map V.int)) := upd_same
                have elrow : (ns ++ List.replicate (hm dd m - hm pr.sum m).toNat (0 : Int)).length = wd := by
                  rw [List.length_append, List.length_replicate]
                  omega
                generalize (ns ++ List.replicate (hm dd m - hm pr.sum m).toNat (0 : Int)) = nrow at W20 X20 hcc elrow ⊢
                generalize (upd (upd (upd H17 z (.lst [.int 0])) zz (.lst (List.replicate (hm dd m - hm pr.sum m).toNat [V.int 0]).flatten)) cc (.lst (nrow.map V.int))) = H20 at W20 X20 hcc ⊢
                refine ⟨cc, _, rfl, .inl ⟨SqL.of hcc, fun tt ntt => ?_⟩⟩
                have W21 : Wr d l (upd F16 tt (.tup (nrow.map V.int))) (upd H20 tt (.tup (nrow.map V.int))) := W20.new ntt
                have X21 := X20.trans (Evl.Ex.new (o := .tup (nrow.map V.int)) ntt)
                have hm21 := X21 _ _ hm17
                have nFt : F16 tt = none := sub_none W20.sub ntt
                have netp : pm ≠ tt := ne_of_none (X20 _ _ hm17) ntt
                have netp2 : p2 ≠ tt := ne_of_none (X20 _ _ hp17) ntt
                have fx := Evl.Ex.new (o := .tup (nrow.map V.int)) nFt
                have nm21 : (upd F16 tt (.tup (nrow.map V.int))) pm = none := by rw [upd_ne netp]; exact nm16
                refine ⟨pm, xs, .ref tt, rfl, rfl, hm21, ?_, upd F16 tt (.tup (nrow.map V.int)), xs ++ [.ref tt], rows ++ [nrow], _, _, _, rfl, W21.mut nm21 npmd.1 npmd.2, (K17.trans (Kp.of_ex X21)).mut nHm, x16.trans fx, by rw [upd_ne netp2]; exact nF16, by rw [upd_ne hne2]; exact X21 _ _ hp17, nm21, upd_same, ?_, by rw [List.length_append, elr]; rfl, fun r hr => ?_⟩
                · rw [DpAll.length hrows, List.length_map, elr]
                  exact Nat.lt_of_lt_of_le (show j < 117650 by omega) (by decide)
                · rw [List.map_append]
                  exact (hrows.ex fx).snoc (Dp.of_ti (SqT.of upd_same))
                · rcases List.mem_append.mp hr with h | h
                  · exact hrl2 r h
                  · rw [List.mem_singleton.mp h]; exact elrow
            · obtain ⟨F16, xs, rows, y9, y11, y12, rfl, W16, K16, x16, nF16, hp16, nm16, hm16, hrows, elr, hrl2⟩ := h
              exact ⟨F16, xs, rows, _, _, _, rfl, W16, K16, hm16, hrows, by rw [elr, hxl2], hrl2⟩
          · rintro σ H' ⟨F', xs, rows, y9, y11, y12, rfl, Wa, Ka, hpm, hrows, erl, hrl3⟩
            refine ⟨.ref pm, rfl, pm, _, rfl, .inl ⟨SqL.of hpm, fun ts nts => ?_⟩⟩
            have Wb : Wr d l (upd F' ts (.tup xs)) (upd H' ts (.tup xs)) := Wa.new nts
            have dts : Dp K (upd F' ts (.tup xs)) (.ref ts) (tti rows) := .tup (SqT.of upd_same) (hrows.ex (Evl.Ex.new (sub_none Wa.sub nts)))
            have Kb := Ka.trans (Kp.of_ex (Evl.Ex.new (o := .tup xs) nts))
            generalize upd F' ts (.tup xs) = Fb at Wb dts
            generalize upd H' ts (.tup xs) = Hb at Wb Kb ⊢
            have hr100 : rows.length ≤ 100 := by rw [erl, prods_len]; exact rawl1 hn4 d1 d4
            have hflen : rows.flatten.length ≤ 1000 := by
              rw [flat_len_eq hrl3]
              exact Nat.le_trans (Nat.mul_le_mul hr100 hwd10) (by decide)
            obtain ⟨ts', xs', ets, hts, hxs⟩ := Dp.tup_inv dts
            cases ets
            have hxl3 : xs'.length = rows.length := by rw [DpAll.length hxs, List.length_map]
            refine ⟨.ref ts, rfl, .ref ts, rows, Fb, rfl, Wb.sub, dts, by omega, fun vr Fc Hc gc hvr => ?_⟩
            have Wc := Wb.gr gc
            have Kc := Kb.trans gc.toKp
            refine ⟨Nat.zero_le _, fun pd npd => ?_⟩
            have nFd : Fc pd = none := sub_none gc.sub npd
            refine ⟨fun σ H' => (∃ y9 y15, σ = [some (.ref d), some (.int n), some (.int m), some (.ref ts), some (.int dd), some (.ref tb), none, some vf, some (.ref pd), y9, some (.int (hm dd m)), y11, y12, none, some vr, y15, none]) ∧ Gr NoS Fc Hc Fc H' ∧ H' pd = some (.lst (rows.flatten.map V.int)), ?_, ?_⟩
            · refine ⟨.ref ts, rfl, ts, rfl, ⟨_, ex_T (gc.exs.trans (Evl.Ex.new npd)) hts⟩, for_tup (K := K) (a := ts) (xs := xs') (fun j σ H' => (∃ y9 y15, σ = [some (.ref d), some (.int n), some (.int m), some (.ref ts), some (.int dd), some (.ref tb), none, some vf, some (.ref pd), y9, some (.int (hm dd m)), y11, y12, none, some vr, y15, none]) ∧ Gr NoS Fc Hc Fc H' ∧ H' pd = some (.lst (((rows.take j).flatten).map V.int))) ⟨⟨_, _, rfl⟩, (Gr.refl gc.sub).newm npd, upd_same⟩ (fun j σ H' _ h => ex_T (gc.fz.trans h.2.1.sub) hts) (fun j x σ H' hx h => ?_) (fun σ H' h => ?_)⟩
              · obtain ⟨⟨y9, y15, rfl⟩, g, hp⟩ := h
                obtain ⟨dd', ed, hdd'⟩ := DpAll.get hxs hx
                rw [List.getElem?_map] at ed
                obtain ⟨pp, ep, rfl⟩ := Option.map_eq_some_iff.mp ed
                obtain ⟨b, rfl, hb⟩ := hdd'.ti_inv
                have e1 : (rows.take (j + 1)).flatten = (rows.take j).flatten ++ pp := by
                  rw [List.take_add_one, ep, List.flatten_append]
                  simp
                refine ⟨.ref pd, rfl, .inl ⟨rfl, _, SqL.of hp⟩, .ref b, rfl, pd, b, _, _, rfl, rfl, hp, ex_T (gc.fz.trans g.sub) hb, ?_, ⟨_, _, rfl⟩, g.mut npd nFd, ?_⟩
                · have h2 : (rows.take (j + 1)).flatten.length ≤ rows.flatten.length := by
                    rw [← List.take_append_drop (j + 1) rows, List.flatten_append, List.length_append, List.take_append_drop]
                    omega
                  rw [e1, List.length_append] at h2
                  rw [List.length_map, List.length_map]
                  exact Nat.le_trans (show _ ≤ 10000 by omega) (by decide)
                · rw [upd_same, e1, List.map_append]
              · obtain ⟨⟨y9, y15, rfl⟩, g, hp⟩ := h
                rw [hxl3, List.take_of_length_le (Nat.le_refl _)] at hp
                exact ⟨⟨_, _, rfl⟩, g, hp⟩
            · rintro σ Hd ⟨⟨y9, y15, rfl⟩, gd, hpd⟩
              have Wd := Wc.gr gd
              have Kd := Kc.trans gd.toKp
              refine ⟨vr, rfl, .ref pd, rfl, pd, _, rfl, .inl (SqL.of hpd), vr, rows.flatten, Fc, by rw [List.length_map]; rfl, gd.sub, hvr, by omega, fun He xe => ⟨true, rfl, iteF ?_⟩⟩
              have ge := gd.trans (Gr.of_ex gd.sub xe)
              refine ⟨vr, rfl, .ref pd, rfl, pd, _, rfl, .inl ⟨SqL.of (xe _ _ hpd), fun tu ntu => ?_⟩⟩
              have gf := ge.new (o := .tup (rows.flatten.map V.int)) ntu
              refine ⟨_, _, hvr.ex gf.exs, Dp.of_ti (SqT.of upd_same), ti_shaped _, ti_shaped _, _, rfl, ?_⟩
              rw [eqv_refl _ (ti_shaped _)]
              refine iteF ?_
              have Wf := Wc.gr gf
              have Kf := Kc.trans gf.toKp
              have hvr2 := hvr.ex gf.fz
              have hts2 := ex_T (gc.fz.trans gf.exs) hts
              generalize upd Fc tu (.tup (rows.flatten.map V.int)) = Ff at gf Wf hvr2
              generalize upd He tu (.tup (rows.flatten.map V.int)) = Hf at gf Wf Kf hts2 ⊢
              have hrpos : 0 < rows.length := by rw [erl, prods_len]; exact rawp hn4 d1 d4
              refine ⟨.ref ts, rfl, ts, _, rfl, .inr hts2, vr, rfl, vr, rows, wd, Ff, by rw [hxl3]; rfl, gf.sub, hvr2, hrpos, by omega, by omega, hrl3, fun va Fg Hg gg hva => ?_⟩
              obtain ⟨ta, xa, rfl, hta, hxa⟩ := Dp.tup_inv hva
              have hxal : xa.length = rows.length := by rw [DpAll.length hxa, List.length_map]
              have Wg := Wf.gr gg
              have Kg := Kf.trans gg.toKp
              refine ⟨.ref ta, rfl, .ref ta, .ty "tuple", .type "tuple", .type "tuple", true, rfl, .ty _, ty_tuple (ex_T gg.sub hta), kit_ty (by decide +kernel), true, rfl, iteT ?_⟩
              refine ⟨.ref ta, rfl, .ref ts, rfl, _, _, hva.ex gg.sub, dts.ex ((gc.fz.trans gf.fz).trans gg.exs), tti_shaped _, tti_shaped _, _, rfl, ?_⟩
              rw [eqv_refl _ (tti_shaped _)]
              refine iteT ?_
              refine ⟨.ref ta, rfl, ta, rfl, ⟨_, ex_T gg.sub hta⟩, fun DA nDA => ?_⟩
              refine lc_it (walk_tup (K := K) (a := ta) (xs := xa)) (fun i H' => Ex Hg H' ∧ H' DA = some (.lst ((List.replicate i true).map V.bl))) ⟨Evl.Ex.new nDA, upd_same⟩ (fun i H' _ h => ex_T (gg.sub.trans h.1) hta) (fun i x H' H'' hi h y => ?_) (fun H' h => ?_)
              · obtain ⟨rfl, hx⟩ := y
                obtain ⟨d9, ed, hd9⟩ := DpAll.get hxa hx
                rw [List.getElem?_map] at ed
                obtain ⟨pp, ep, rfl⟩ := Option.map_eq_some_iff.mp ed
                have hpl : pp.length = wd := hrl3 pp (List.mem_of_getElem? ep)
                refine ⟨rfl, x, rfl, .int (hm dd m), rfl, x, pp, Fg, by rw [hpl, hwd2]; rfl, gg.sub.trans h.1, hd9, by omega, fun H9 x9 => ⟨_, x9 _ _ h.2, ?_, Evl.Ex.mut (h.1.trans x9) nDA, ?_⟩⟩
                · rw [List.length_map, List.length_replicate]
                  exact Nat.lt_of_lt_of_le (show i < 10000 by omega) (by decide)
                · rw [upd_same, List.replicate_succ', List.map_append]
                  rfl
              · refine ⟨DA, _, rfl, SqL.of h.2, ?_⟩
                have e : (List.replicate xa.length true).all id = true := by simp
                rw [e]
                exact q _ ((Wg.deal).ex h.1) (Kg.trans (Kp.of_ex h.1))

/-! ### the law -/
def sp_law (K : PySem.W.Frag) : Sp := fun vs H Q _ => ∃ (a : Addr) (ns : List Int), vs = [.ref a] ∧ SqL K H a (ns.map V.int) ∧ ns.length ≤ 63 ∧ ∀ H', Q (.bl true) H'
theorem ok_law {k : Nat} (T : Txt K mg) : FnOk P w K mg base CX0 (k + 4) T.f_law T.fd_law ["_law_script"] (sp_law K) := by
  have G__law_deal : FnOk P w K mg base CX0 1 T.f__law_deal T.fd__law_deal ["_law_script", "_law_base"] (sp_deal K) := ok_deal T
  have G__law_once_right : FnOk P w K mg base CX0 3 T.f__law_once_right T.fd__law_once_right ["_law_deal_here"] sp_once := ok_once T
  refine T.F_law.ok sc_law (fun vs H Q E h => ?_) (fun cdv A outer s H vs Q E hr h => ?_)
  · obtain ⟨a, ns, rfl, _⟩ := h
    rfl
  · obtain ⟨a, ns, rfl, hS, hlen, q⟩ := h
    refine ⟨_, (pss_cons (ps_set (i := 1) sc_law.nd rfl (Or.inr rfl) (pe_call G__law_deal (hr.mono (by omega)) (by rfl) T.g__law_deal T.F__law_deal.kp T.b__law_deal .nil pass0 (pa_cons (pv 0) (pa_cons pe_int pa_nil))))
      (pss_one (ps_ret (pe_callB (cr_allK (K := K) rfl) (by rfl) T.z_all bt_all (pa_cons (pe_lc (own := [("_law_turn", 2)]) (g := gName 2) (tt := tYes) rfl sc_law.nd (pi_range1 (by rfl) T.z_range (pa_cons pe_int pa_nil)) (blkOk_by (own := [("_law_turn", 2)]) (N := nm_law) (sc := defScope st_law) (by decide +kernel)) (fun _ _ _ _ _ => (pg_name (i := 2) sc_law.nd rfl (Or.inl rfl))) (fun _ _ _ _ _ => pts_nil) (fun _ _ _ _ _ => (pe_call G__law_once_right (hr.mono (by omega)) (by rfl) T.g__law_once_right T.F__law_once_right.kp T.b__law_once_right .nil pass0 (pa_cons (pv 1) pa_nil)))) pa_nil))))), ?_⟩
    refine ⟨.ref a, rfl, a, ns, 0, rfl, hS, hlen, by decide, by decide, fun d l H1 x1 nd nl D1 => ?_⟩
    refine ⟨3, rfl, by decide, by decide, fun DD nD => ?_⟩
    refine lc_range (lo := 0) (n := 3) (fun i H' => IsDeal H' d l ∧ H' DD = some (.lst ((List.replicate i true).map V.bl))) ⟨D1.upd (D1.nd nD).1 (D1.nd nD).2, upd_same⟩ (fun i H' hi h => ?_) (fun H' h => ?_)
    · obtain ⟨D3, hD⟩ := h
      refine ⟨rfl, .ref d, rfl, d, l, rfl, D3, fun H4 D4 k4 => ⟨_, k4 DD _ (D1.nd nD).1 (D1.nd nD).2 hD, small1000 (by rw [List.length_map, List.length_replicate]; omega), D4.upd (D1.nd nD).1 (D1.nd nD).2, ?_⟩⟩
      rw [upd_same, List.replicate_succ', List.map_append]
      rfl
    · refine ⟨DD, _, rfl, SqL.of h.2, ?_⟩
      exact q _
abbrev level : Nat := 4
theorem law_starts {K : PySem.W.Frag} {H : Hp} {a : Addr} {ns : List Int} (hl : ns.length ≤ 63) (hS : SqL K H a (ns.map V.int)) : sp_law K [.ref a] H (fun v _ => v = .bl true) fun _ _ _ => False := ⟨a, ns, rfl, hS, hl, fun _ => rfl⟩
theorem law_ok {fa : Addr} (hmg : mg "law" = some (.ref fa)) (T : Txt K mg) :
    ∃ fd : FuncData, (∀ (s : Shared) (v : Value), BindsTo s fd ⟨[v], []⟩ [("_law_script", v)]) ∧ ∀ base : Heap, K.In base → base.Ns mainGlobals mg → FnOk P w K mg base CX0 level fa fd ["_law_script"] (sp_law K) := by
  have e := hmg.symm.trans T.g_law
  cases e
  refine ⟨T.fd_law, fun s v => ?_, fun base _ _ => ok_law T⟩
  obtain ⟨oc, od, kV, doc, pm, an, cdv, ct, osl, e, lk, hcd⟩ := T.F_law.ex
  rw [e]
  exact .of_eq rfl

end
def txt_mk {K : PySem.W.Frag} {h : Heap} {mg : Str → Option Value} (X : K.In h) (G : h.Ns mainGlobals mg)
    {f_products : Addr} {od_products an_products : Option Addr} {sl_products : Array (Option Value)} {oc_products kV_products dc_products pm_products cd_products ct_products : Value}
    (a_products : PySem.W.nsIn K mainGlobals "products" = some (some (.ref f_products))) (l_products : K.lookup f_products = some ⟨oc_products, od_products, .func (PySem.W.fnOf "products" "products" (defArgs st_products) (defBody st_products) (defScope st_products) .none kV_products dc_products pm_products an_products cd_products ct_products), sl_products⟩) (c_products : PySem.W.codeIn K cd_products "products" = true) (k_products : PySem.W.keepIn K (.ref f_products) = true)
    {f_boxes_row : Addr} {od_boxes_row an_boxes_row : Option Addr} {sl_boxes_row : Array (Option Value)} {oc_boxes_row kV_boxes_row dc_boxes_row pm_boxes_row cd_boxes_row ct_boxes_row : Value}
    (a_boxes_row : PySem.W.nsIn K mainGlobals "boxes_row" = some (some (.ref f_boxes_row))) (l_boxes_row : K.lookup f_boxes_row = some ⟨oc_boxes_row, od_boxes_row, .func (PySem.W.fnOf "boxes_row" "boxes_row" (defArgs st_boxes_row) (defBody st_boxes_row) (defScope st_boxes_row) .none kV_boxes_row dc_boxes_row pm_boxes_row an_boxes_row cd_boxes_row ct_boxes_row), sl_boxes_row⟩) (c_boxes_row : PySem.W.codeIn K cd_boxes_row "boxes_row" = true) (k_boxes_row : PySem.W.keepIn K (.ref f_boxes_row) = true)
    {f_map_row : Addr} {od_map_row an_map_row : Option Addr} {sl_map_row : Array (Option Value)} {oc_map_row kV_map_row dc_map_row pm_map_row cd_map_row ct_map_row : Value}
    (a_map_row : PySem.W.nsIn K mainGlobals "map_row" = some (some (.ref f_map_row))) (l_map_row : K.lookup f_map_row = some ⟨oc_map_row, od_map_row, .func (PySem.W.fnOf "map_row" "map_row" (defArgs st_map_row) (defBody st_map_row) (defScope st_map_row) .none kV_map_row dc_map_row pm_map_row an_map_row cd_map_row ct_map_row), sl_map_row⟩) (c_map_row : PySem.W.codeIn K cd_map_row "map_row" = true) (k_map_row : PySem.W.keepIn K (.ref f_map_row) = true)
    {f_row_map : Addr} {od_row_map an_row_map : Option Addr} {sl_row_map : Array (Option Value)} {oc_row_map kV_row_map dc_row_map pm_row_map cd_row_map ct_row_map : Value}
    (a_row_map : PySem.W.nsIn K mainGlobals "row_map" = some (some (.ref f_row_map))) (l_row_map : K.lookup f_row_map = some ⟨oc_row_map, od_row_map, .func (PySem.W.fnOf "row_map" "row_map" (defArgs st_row_map) (defBody st_row_map) (defScope st_row_map) .none kV_row_map dc_row_map pm_row_map an_row_map cd_row_map ct_row_map), sl_row_map⟩) (c_row_map : PySem.W.codeIn K cd_row_map "row_map" = true) (k_row_map : PySem.W.keepIn K (.ref f_row_map) = true)
    {f__law_deal : Addr} {od__law_deal an__law_deal : Option Addr} {sl__law_deal : Array (Option Value)} {oc__law_deal kV__law_deal dc__law_deal pm__law_deal cd__law_deal ct__law_deal : Value}
    (a__law_deal : PySem.W.nsIn K mainGlobals "_law_deal" = some (some (.ref f__law_deal))) (l__law_deal : K.lookup f__law_deal = some ⟨oc__law_deal, od__law_deal, .func (PySem.W.fnOf "_law_deal" "_law_deal" (defArgs st__law_deal) (defBody st__law_deal) (defScope st__law_deal) .none kV__law_deal dc__law_deal pm__law_deal an__law_deal cd__law_deal ct__law_deal), sl__law_deal⟩) (c__law_deal : PySem.W.codeIn K cd__law_deal "_law_deal" = true) (k__law_deal : PySem.W.keepIn K (.ref f__law_deal) = true)
    {f__law_draw : Addr} {od__law_draw an__law_draw : Option Addr} {sl__law_draw : Array (Option Value)} {oc__law_draw kV__law_draw dc__law_draw pm__law_draw cd__law_draw ct__law_draw : Value}
    (a__law_draw : PySem.W.nsIn K mainGlobals "_law_draw" = some (some (.ref f__law_draw))) (l__law_draw : K.lookup f__law_draw = some ⟨oc__law_draw, od__law_draw, .func (PySem.W.fnOf "_law_draw" "_law_draw" (defArgs st__law_draw) (defBody st__law_draw) (defScope st__law_draw) .none kV__law_draw dc__law_draw pm__law_draw an__law_draw cd__law_draw ct__law_draw), sl__law_draw⟩) (c__law_draw : PySem.W.codeIn K cd__law_draw "_law_draw" = true) (k__law_draw : PySem.W.keepIn K (.ref f__law_draw) = true)
    {f__law_count : Addr} {od__law_count an__law_count : Option Addr} {sl__law_count : Array (Option Value)} {oc__law_count kV__law_count dc__law_count pm__law_count cd__law_count ct__law_count : Value}
    (a__law_count : PySem.W.nsIn K mainGlobals "_law_count" = some (some (.ref f__law_count))) (l__law_count : K.lookup f__law_count = some ⟨oc__law_count, od__law_count, .func (PySem.W.fnOf "_law_count" "_law_count" (defArgs st__law_count) (defBody st__law_count) (defScope st__law_count) .none kV__law_count dc__law_count pm__law_count an__law_count cd__law_count ct__law_count), sl__law_count⟩) (c__law_count : PySem.W.codeIn K cd__law_count "_law_count" = true) (k__law_count : PySem.W.keepIn K (.ref f__law_count) = true)
    {f__law_products : Addr} {od__law_products an__law_products : Option Addr} {sl__law_products : Array (Option Value)} {oc__law_products kV__law_products dc__law_products pm__law_products cd__law_products ct__law_products : Value}
    (a__law_products : PySem.W.nsIn K mainGlobals "_law_products" = some (some (.ref f__law_products))) (l__law_products : K.lookup f__law_products = some ⟨oc__law_products, od__law_products, .func (PySem.W.fnOf "_law_products" "_law_products" (defArgs st__law_products) (defBody st__law_products) (defScope st__law_products) .none kV__law_products dc__law_products pm__law_products an__law_products cd__law_products ct__law_products), sl__law_products⟩) (c__law_products : PySem.W.codeIn K cd__law_products "_law_products" = true) (k__law_products : PySem.W.keepIn K (.ref f__law_products) = true)
    {f__law_whole_row : Addr} {od__law_whole_row an__law_whole_row : Option Addr} {sl__law_whole_row : Array (Option Value)} {oc__law_whole_row kV__law_whole_row dc__law_whole_row pm__law_whole_row cd__law_whole_row ct__law_whole_row : Value}
    (a__law_whole_row : PySem.W.nsIn K mainGlobals "_law_whole_row" = some (some (.ref f__law_whole_row))) (l__law_whole_row : K.lookup f__law_whole_row = some ⟨oc__law_whole_row, od__law_whole_row, .func (PySem.W.fnOf "_law_whole_row" "_law_whole_row" (defArgs st__law_whole_row) (defBody st__law_whole_row) (defScope st__law_whole_row) .none kV__law_whole_row dc__law_whole_row pm__law_whole_row an__law_whole_row cd__law_whole_row ct__law_whole_row), sl__law_whole_row⟩) (c__law_whole_row : PySem.W.codeIn K cd__law_whole_row "_law_whole_row" = true) (k__law_whole_row : PySem.W.keepIn K (.ref f__law_whole_row) = true)
    {f__law_worth : Addr} {od__law_worth an__law_worth : Option Addr} {sl__law_worth : Array (Option Value)} {oc__law_worth kV__law_worth dc__law_worth pm__law_worth cd__law_worth ct__law_worth : Value}
    (a__law_worth : PySem.W.nsIn K mainGlobals "_law_worth" = some (some (.ref f__law_worth))) (l__law_worth : K.lookup f__law_worth = some ⟨oc__law_worth, od__law_worth, .func (PySem.W.fnOf "_law_worth" "_law_worth" (defArgs st__law_worth) (defBody st__law_worth) (defScope st__law_worth) .none kV__law_worth dc__law_worth pm__law_worth an__law_worth cd__law_worth ct__law_worth), sl__law_worth⟩) (c__law_worth : PySem.W.codeIn K cd__law_worth "_law_worth" = true) (k__law_worth : PySem.W.keepIn K (.ref f__law_worth) = true)
    {f__law_any_number : Addr} {od__law_any_number an__law_any_number : Option Addr} {sl__law_any_number : Array (Option Value)} {oc__law_any_number kV__law_any_number dc__law_any_number pm__law_any_number cd__law_any_number ct__law_any_number : Value}
    (a__law_any_number : PySem.W.nsIn K mainGlobals "_law_any_number" = some (some (.ref f__law_any_number))) (l__law_any_number : K.lookup f__law_any_number = some ⟨oc__law_any_number, od__law_any_number, .func (PySem.W.fnOf "_law_any_number" "_law_any_number" (defArgs st__law_any_number) (defBody st__law_any_number) (defScope st__law_any_number) .none kV__law_any_number dc__law_any_number pm__law_any_number an__law_any_number cd__law_any_number ct__law_any_number), sl__law_any_number⟩) (c__law_any_number : PySem.W.codeIn K cd__law_any_number "_law_any_number" = true) (k__law_any_number : PySem.W.keepIn K (.ref f__law_any_number) = true)
    {f__law_once_right : Addr} {od__law_once_right an__law_once_right : Option Addr} {sl__law_once_right : Array (Option Value)} {oc__law_once_right kV__law_once_right dc__law_once_right pm__law_once_right cd__law_once_right ct__law_once_right : Value}
    (a__law_once_right : PySem.W.nsIn K mainGlobals "_law_once_right" = some (some (.ref f__law_once_right))) (l__law_once_right : K.lookup f__law_once_right = some ⟨oc__law_once_right, od__law_once_right, .func (PySem.W.fnOf "_law_once_right" "_law_once_right" (defArgs st__law_once_right) (defBody st__law_once_right) (defScope st__law_once_right) .none kV__law_once_right dc__law_once_right pm__law_once_right an__law_once_right cd__law_once_right ct__law_once_right), sl__law_once_right⟩) (c__law_once_right : PySem.W.codeIn K cd__law_once_right "_law_once_right" = true) (k__law_once_right : PySem.W.keepIn K (.ref f__law_once_right) = true)
    {f_law : Addr} {od_law an_law : Option Addr} {sl_law : Array (Option Value)} {oc_law kV_law dc_law pm_law cd_law ct_law : Value}
    (a_law : PySem.W.nsIn K mainGlobals "law" = some (some (.ref f_law))) (l_law : K.lookup f_law = some ⟨oc_law, od_law, .func (PySem.W.fnOf "law" "law" (defArgs st_law) (defBody st_law) (defScope st_law) .none kV_law dc_law pm_law an_law cd_law ct_law), sl_law⟩) (c_law : PySem.W.codeIn K cd_law "law" = true) (k_law : PySem.W.keepIn K (.ref f_law) = true)
    (z_all : PySem.W.nsIn K mainGlobals "all" = some none)
    (z_bool : PySem.W.nsIn K mainGlobals "bool" = some none)
    (z_int : PySem.W.nsIn K mainGlobals "int" = some none)
    (z_isinstance : PySem.W.nsIn K mainGlobals "isinstance" = some none)
    (z_len : PySem.W.nsIn K mainGlobals "len" = some none)
    (z_list : PySem.W.nsIn K mainGlobals "list" = some none)
    (z_max : PySem.W.nsIn K mainGlobals "max" = some none)
    (z_range : PySem.W.nsIn K mainGlobals "range" = some none)
    (z_reversed : PySem.W.nsIn K mainGlobals "reversed" = some none)
    (z_sorted : PySem.W.nsIn K mainGlobals "sorted" = some none)
    (z_sum : PySem.W.nsIn K mainGlobals "sum" = some none)
    (z_tuple : PySem.W.nsIn K mainGlobals "tuple" = some none)
    (z_zip : PySem.W.nsIn K mainGlobals "zip" = some none) : Txt K mg :=
  {
    f_products := f_products, fd_products := _, F_products := fun_mk (st := st_products) l_products c_products k_products, b_products := (fun_mk (st := st_products) l_products c_products k_products).binds (ps := ["n", "d"]) fun _ _ _ _ _ _ us hl => match us, hl with | [_, _], _ => rfl, g_products := PySem.W.mg_of X G a_products,
    f_boxes_row := f_boxes_row, fd_boxes_row := _, F_boxes_row := fun_mk (st := st_boxes_row) l_boxes_row c_boxes_row k_boxes_row, b_boxes_row := (fun_mk (st := st_boxes_row) l_boxes_row c_boxes_row k_boxes_row).binds (ps := ["n", "d", "boxes"]) fun _ _ _ _ _ _ us hl => match us, hl with | [_, _, _], _ => rfl, g_boxes_row := PySem.W.mg_of X G a_boxes_row,
    f_map_row := f_map_row, fd_map_row := _, F_map_row := fun_mk (st := st_map_row) l_map_row c_map_row k_map_row, b_map_row := (fun_mk (st := st_map_row) l_map_row c_map_row k_map_row).binds (ps := ["told"]) fun _ _ _ _ _ _ us hl => match us, hl with | [_], _ => rfl, g_map_row := PySem.W.mg_of X G a_map_row,
    f_row_map := f_row_map, fd_row_map := _, F_row_map := fun_mk (st := st_row_map) l_row_map c_row_map k_row_map, b_row_map := (fun_mk (st := st_row_map) l_row_map c_row_map k_row_map).binds (ps := ["many", "row"]) fun _ _ _ _ _ _ us hl => match us, hl with | [_, _], _ => rfl, g_row_map := PySem.W.mg_of X G a_row_map,
    f__law_deal := f__law_deal, fd__law_deal := _, F__law_deal := fun_mk (st := st__law_deal) l__law_deal c__law_deal k__law_deal, b__law_deal := (fun_mk (st := st__law_deal) l__law_deal c__law_deal k__law_deal).binds (ps := ["_law_script", "_law_base"]) fun _ _ _ _ _ _ us hl => match us, hl with | [_, _], _ => rfl, g__law_deal := PySem.W.mg_of X G a__law_deal,
    f__law_draw := f__law_draw, fd__law_draw := _, F__law_draw := fun_mk (st := st__law_draw) l__law_draw c__law_draw k__law_draw, b__law_draw := (fun_mk (st := st__law_draw) l__law_draw c__law_draw k__law_draw).binds (ps := ["_law_deal_here", "_law_many"]) fun _ _ _ _ _ _ us hl => match us, hl with | [_, _], _ => rfl, g__law_draw := PySem.W.mg_of X G a__law_draw,
    f__law_count := f__law_count, fd__law_count := _, F__law_count := fun_mk (st := st__law_count) l__law_count c__law_count k__law_count, b__law_count := (fun_mk (st := st__law_count) l__law_count c__law_count k__law_count).binds (ps := ["_law_n", "_law_d"]) fun _ _ _ _ _ _ us hl => match us, hl with | [_, _], _ => rfl, g__law_count := PySem.W.mg_of X G a__law_count,
    f__law_products := f__law_products, fd__law_products := _, F__law_products := fun_mk (st := st__law_products) l__law_products c__law_products k__law_products, b__law_products := (fun_mk (st := st__law_products) l__law_products c__law_products k__law_products).binds (ps := ["_law_n", "_law_d"]) fun _ _ _ _ _ _ us hl => match us, hl with | [_, _], _ => rfl, g__law_products := PySem.W.mg_of X G a__law_products,
    f__law_whole_row := f__law_whole_row, fd__law_whole_row := _, F__law_whole_row := fun_mk (st := st__law_whole_row) l__law_whole_row c__law_whole_row k__law_whole_row, b__law_whole_row := (fun_mk (st := st__law_whole_row) l__law_whole_row c__law_whole_row k__law_whole_row).binds (ps := ["_law_row", "_law_many"]) fun _ _ _ _ _ _ us hl => match us, hl with | [_, _], _ => rfl, g__law_whole_row := PySem.W.mg_of X G a__law_whole_row,
    f__law_worth := f__law_worth, fd__law_worth := _, F__law_worth := fun_mk (st := st__law_worth) l__law_worth c__law_worth k__law_worth, b__law_worth := (fun_mk (st := st__law_worth) l__law_worth c__law_worth k__law_worth).binds (ps := ["_law_product", "_law_boxes"]) fun _ _ _ _ _ _ us hl => match us, hl with | [_, _], _ => rfl, g__law_worth := PySem.W.mg_of X G a__law_worth,
    f__law_any_number := f__law_any_number, fd__law_any_number := _, F__law_any_number := fun_mk (st := st__law_any_number) l__law_any_number c__law_any_number k__law_any_number, b__law_any_number := (fun_mk (st := st__law_any_number) l__law_any_number c__law_any_number k__law_any_number).binds (ps := ["_law_deal_here"]) fun _ _ _ _ _ _ us hl => match us, hl with | [_], _ => rfl, g__law_any_number := PySem.W.mg_of X G a__law_any_number,
    f__law_once_right := f__law_once_right, fd__law_once_right := _, F__law_once_right := fun_mk (st := st__law_once_right) l__law_once_right c__law_once_right k__law_once_right, b__law_once_right := (fun_mk (st := st__law_once_right) l__law_once_right c__law_once_right k__law_once_right).binds (ps := ["_law_deal_here"]) fun _ _ _ _ _ _ us hl => match us, hl with | [_], _ => rfl, g__law_once_right := PySem.W.mg_of X G a__law_once_right,
    f_law := f_law, fd_law := _, F_law := fun_mk (st := st_law) l_law c_law k_law, b_law := (fun_mk (st := st_law) l_law c_law k_law).binds (ps := ["_law_script"]) fun _ _ _ _ _ _ us hl => match us, hl with | [_], _ => rfl, g_law := PySem.W.mg_of X G a_law,
    z_all := PySem.W.mg_none_of X G z_all,
    z_bool := PySem.W.mg_none_of X G z_bool,
    z_int := PySem.W.mg_none_of X G z_int,
    z_isinstance := PySem.W.mg_none_of X G z_isinstance,
    z_len := PySem.W.mg_none_of X G z_len,
    z_list := PySem.W.mg_none_of X G z_list,
    z_max := PySem.W.mg_none_of X G z_max,
    z_range := PySem.W.mg_none_of X G z_range,
    z_reversed := PySem.W.mg_none_of X G z_reversed,
    z_sorted := PySem.W.mg_none_of X G z_sorted,
    z_sum := PySem.W.mg_none_of X G z_sum,
    z_tuple := PySem.W.mg_none_of X G z_tuple,
    z_zip := PySem.W.mg_none_of X G z_zip }
end LW
open PySem PySem.W PyProof.Rows
set_option maxHeartbeats 0 in
theorem PySem.Challenge.cw_curvekept_k29_rows_of_boxes_and_maps_holds : PySem.Challenge.rw_curvekept_k29_rows_of_boxes_and_maps.Holds := by
  w_on; o_law; k_head; (case hw => w_witness2)
  k_fill
  refine L2.walk_of (l := PySem.Challenge.rw_curvekept_k29_rows_of_boxes_and_maps) (n := 63) (k := LW.level) (x := "_law_script") (CX := fun _ => L2.CX0) (sp := fun w => LW.sp_law _) rfl (by decide) rfl ⟨rfl, by decide, by decide⟩ (fun w h Y => PySem.W.kIn_of Y) ?F (fun _ _ a ns hl _ hS => LW.law_starts hl hS) (fun _ _ _ _ _ h => h)
  case F =>
    intro w mg fa h KX G hmg
    refine' LW.law_ok hmg (LW.txt_mk KX G ?a_products ?l_products ?c_products ?k_products ?a_boxes_row ?l_boxes_row ?c_boxes_row ?k_boxes_row ?a_map_row ?l_map_row ?c_map_row ?k_map_row ?a_row_map ?l_row_map ?c_row_map ?k_row_map ?a__law_deal ?l__law_deal ?c__law_deal ?k__law_deal ?a__law_draw ?l__law_draw ?c__law_draw ?k__law_draw ?a__law_count ?l__law_count ?c__law_count ?k__law_count ?a__law_products ?l__law_products ?c__law_products ?k__law_products ?a__law_whole_row ?l__law_whole_row ?c__law_whole_row ?k__law_whole_row ?a__law_worth ?l__law_worth ?c__law_worth ?k__law_worth ?a__law_any_number ?l__law_any_number ?c__law_any_number ?k__law_any_number ?a__law_once_right ?l__law_once_right ?c__law_once_right ?k__law_once_right ?a_law ?l_law ?c_law ?k_law ?z_all ?z_bool ?z_int ?z_isinstance ?z_len ?z_list ?z_max ?z_range ?z_reversed ?z_sorted ?z_sum ?z_tuple ?z_zip)
    (case a_products => k_is); (case l_products => k_is); (case c_products => k_is); (case k_products => k_is); (case a_boxes_row => k_is); (case l_boxes_row => k_is); (case c_boxes_row => k_is); (case k_boxes_row => k_is); (case a_map_row => k_is); (case l_map_row => k_is); (case c_map_row => k_is); (case k_map_row => k_is); (case a_row_map => k_is); (case l_row_map => k_is); (case c_row_map => k_is); (case k_row_map => k_is); (case a__law_deal => k_is); (case l__law_deal => k_is); (case c__law_deal => k_is); (case k__law_deal => k_is); (case a__law_draw => k_is); (case l__law_draw => k_is); (case c__law_draw => k_is); (case k__law_draw => k_is); (case a__law_count => k_is); (case l__law_count => k_is); (case c__law_count => k_is); (case k__law_count => k_is); (case a__law_products => k_is); (case l__law_products => k_is); (case c__law_products => k_is); (case k__law_products => k_is); (case a__law_whole_row => k_is); (case l__law_whole_row => k_is); (case c__law_whole_row => k_is); (case k__law_whole_row => k_is); (case a__law_worth => k_is); (case l__law_worth => k_is); (case c__law_worth => k_is); (case k__law_worth => k_is); (case a__law_any_number => k_is); (case l__law_any_number => k_is); (case c__law_any_number => k_is); (case k__law_any_number => k_is); (case a__law_once_right => k_is); (case l__law_once_right => k_is); (case c__law_once_right => k_is); (case k__law_once_right => k_is); (case a_law => k_is); (case l_law => k_is); (case c_law => k_is); (case k_law => k_is); (case z_all => k_is); (case z_bool => k_is); (case z_int => k_is); (case z_isinstance => k_is); (case z_len => k_is); (case z_list => k_is); (case z_max => k_is); (case z_range => k_is); (case z_reversed => k_is); (case z_sorted => k_is); (case z_sum => k_is); (case z_tuple => k_is); (case z_zip => k_is)
