import PyProof.Rows.All
import Wide.All
import OpenK.AllK
import Wide.FinOn
import HandS.ForMost
import HandS.IsInst
import HandS.Rev
import HandS.Style
import HandS.Conv
import HandS.TupAny
import HandS.Evl
import HandS.Walk
import HandS.Deep
import HandS.Zip
import PyProof.ListStr
import KE.SortData
import KE.SortKeyHeap
import PyProof.ReprRoads
import KE.GoesEnum
import HandS.RaiseMore
import PyProof.ReprLen
import PyProof.Rows.RegStrFacts
import HandS.TryOnly
import PyProof.Rows.CallKwBuiltin
import HandS.TupMul
import PySem.Challenge.RW_curvekept_k06_rows_made_bare
set_option Elab.async false
set_option linter.all false
set_option maxRecDepth 100000
set_option maxHeartbeats 2000000
/-! Rules of the layer with the written part as a letter of its own, so that they serve within comprehensions. -/
namespace CB
open PySem PySem.Spec PyProof.Rows L2
section
variable {X : Cx} {K : PySem.W.Frag} {tg e e2 : Expr} {es : List Expr} {ta : TA} {te tl : TE}
abbrev rLenQ (K : PySem.W.Frag) : List V → Hp → VK → Prop := fun xs H Q => ∃ p ys, xs = [.ref p] ∧ (SqL K H p ys ∨ SqT K H p ys) ∧ Q (.int ys.length) H
abbrev rListQ (K : PySem.W.Frag) : List V → Hp → VK → Prop := fun xs H Q => ∃ p ys, xs = [.ref p] ∧ (SqL K H p ys ∨ SqT K H p ys) ∧ ∀ l, H l = none → Q (.ref l) (upd H l (.lst ys))
abbrev rTupleQ (K : PySem.W.Frag) : List V → Hp → VK → Prop := fun xs H Q => ∃ p ys, xs = [.ref p] ∧ ((SqL K H p ys ∧ ∀ l, H l = none → Q (.ref l) (upd H l (.tup ys))) ∨ (SqT K H p ys ∧ Q (.ref p) H))
theorem call_lenK (hK : X.K = K := by rfl) : CallR X (.builtin "len") (rLenQ K) := hK ▸ call_len_seq
theorem call_listK (hK : X.K = K := by rfl) : CallR X (.type "list") (rListQ K) := hK ▸ call_list_of
theorem call_tupleK (hK : X.K = K := by rfl) : CallR X (.type "tuple") (rTupleQ K) := hK ▸ call_tuple_of
theorem cr_sumK (hc : X.calm = true) (hK : X.K = K := by rfl) : CallR X (.builtin "sum") (rSum K) := hK ▸ cr_sum hc
theorem cr_allK (hc : X.calm = true) (hK : X.K = K := by rfl) : CallR X (.builtin "all") (rAll K) := hK ▸ cr_all hc
theorem cr_anyK (hc : X.calm = true) (hK : X.K = K := by rfl) : CallR X (.builtin "any") (rAny K) := hK ▸ cr_any hc
theorem call_isiK' (hK : X.K = K := by rfl) : CallR X (.builtin "isinstance") (rIsi K) := hK ▸ call_isi
theorem ix_listK (hK : X.K = K := by rfl) : IxR X (rIxL K) := hK ▸ ix_list
theorem ix_tupK (hK : X.K = K := by rfl) : IxR X (rIxT K) := hK ▸ ix_tup
theorem sl_listK (hK : X.K = K := by rfl) : SlR X (rSlL K) := hK ▸ sl_list
theorem sl_tupK (hK : X.K = K := by rfl) : SlR X (rSlA K) := hK ▸ sl_tupA
theorem op_inK (hK : X.K = K := by rfl) : OpR X (compareOp .In) (rIn K false) := hK ▸ op_in_seq
theorem op_notInK (hK : X.K = K := by rfl) : OpR X (compareOp .NotIn) (rIn K true) := hK ▸ op_notIn_seq
theorem op_eqDK (hu : X.A.units + 64 < cLine) (hK : X.K = K := by rfl) : OpR X (compareOp .Eq) (rEqD K) := hK ▸ op_eqD hu
theorem op_neDK (hu : X.A.units + 64 < cLine) (hK : X.K = K := by rfl) : OpR X (compareOp .NotEq) (rNeD K) := hK ▸ op_neD hu
theorem op_catK (hK : X.K = K := by rfl) : OpR X (binaryOp .Add) (rCatA K) := hK ▸ op_catA
theorem pi_listK (hl : PE X e tl) (hK : X.K = K := by rfl) : PI X tg e (iList K tl) := hK ▸ pi_list hl
theorem pi_tupK (hl : PE X e tl) (hK : X.K = K := by rfl) : PI X tg e (iTup K tl) := hK ▸ pi_tup hl
theorem pi_enumK {p pos tpos : Pos} {elts : List Expr} {kk : Nat} (hg : Gl X "enumerate") (hm : X.mg "enumerate" = none) (ha : PA X [e] ta) (hs : starEach [e] X.env = [(false, eval e X.env)] := by rfl) (hK : X.K = K := by rfl) :
    PI X (.Tuple elts kk tpos) (.Call (.Name "enumerate" p) [e] [] pos) (iEnum K ta) := hK ▸ pi_enum hg hm ha hs
theorem pi_zipK {p pos tpos : Pos} {elts : List Expr} {kk : Nat} (hg : Gl X "zip") (hm : X.mg "zip" = none) (ha : PA X [e, e2] ta)
    (hs : starEach [e, e2] X.env = (false, eval e X.env) :: starEach [e2] X.env := by rfl) (hpl : (backTo pos (starEach [e2] X.env)).any (·.1) = false := by rfl) (hK : X.K = K := by rfl) :
    PI X (.Tuple elts kk tpos) (.Call (.Name "zip" p) [e, e2] [] pos) (iZip K ta) := hK ▸ pi_zip hg hm ha hs hpl
theorem pg_tupK {es : List Expr} {k n : Nat} {t : TGs} {pos : Pos} (hc : X.calm = true) (h : PGs X es t)
    (hn : (assignEach es X.env).length = n := by rfl) (hst : (assignEach es X.env).findIdx? (·.1) = none := by rfl) (hK : X.K = K := by rfl) : PG X (.Tuple es k pos) (gTup K n t) := hK ▸ pg_tup hc h hn hst
theorem pe_revK {k : Nat} {p1 p2 p3 pos : Pos} (he : PE X e te) (hK : X.K = K := by rfl) : PE X (.Subscript e (.Slice none none (some (.UnaryOp .USub (.Constant (.int 1) k p1) p2)) p3) pos) (tRevL K te) := hK ▸ pe_revL he
theorem pe_bmK {o : Expr} {to : TE} {T id : String} {name : Str} {r : V → List V → Hp → VK → Prop} {apos cpos : Pos} (pa : PlainAttrs T) (slot : Slot T name id) (hty : typeOf (.builtin id) = pure (.type "method_descriptor")) (hm : MtR X id r) (ho : PE X o to) (ha : PA X (e :: es) ta)
    (hbase : attributeBase o name X.env (eval o X.env) = eval o X.env := by rfl)
    (hfew : ((backTo cpos (starEach (e :: es) X.env)).all (fun x => !x.1) && (backToKw cpos (keywordEach [] X.env)).all (fun x => x.1.isSome)
      && decide ((e :: es).length + ([] : List Keyword).length + (if ([] : List Keyword).isEmpty then 0 else 1) < 30)) = true := by rfl)
    (hline : (apos.endLine == cpos.line) = true := by rfl) (hs : starEach (e :: es) X.env = (false, eval e X.env) :: starEach es X.env := by rfl) (hplain : (backTo cpos (starEach es X.env)).any (·.1) = false := by rfl) (hK : X.K = K := by rfl) :
    PE X (.Call (.Attribute o name apos) (e :: es) [] cpos) (tBM K T r to ta) := hK ▸ pe_bm pa slot hty hm ho ha hbase hfew hline hs hplain
end
end CB

set_option Elab.async false
set_option linter.all false
set_option maxRecDepth 100000
set_option maxHeartbeats 2000000
namespace CB
open PySem PySem.Spec PyProof.Rows L2

/-! ### the built-ins -/
theorem bt_abs : bootBuiltins "abs" = some (.builtin "abs") := by decide +kernel
theorem bt_all : bootBuiltins "all" = some (.builtin "all") := by decide +kernel
theorem bt_any : bootBuiltins "any" = some (.builtin "any") := by decide +kernel
theorem bt_isinstance : bootBuiltins "isinstance" = some (.builtin "isinstance") := by decide +kernel
theorem bt_len : bootBuiltins "len" = some (.builtin "len") := by decide +kernel
theorem bt_max : bootBuiltins "max" = some (.builtin "max") := by decide +kernel
theorem bt_min : bootBuiltins "min" = some (.builtin "min") := by decide +kernel
theorem bt_repr : bootBuiltins "repr" = some (.builtin "repr") := by decide +kernel
theorem bt_sorted : bootBuiltins "sorted" = some (.builtin "sorted") := by decide +kernel
theorem bt_sum : bootBuiltins "sum" = some (.builtin "sum") := by decide +kernel
theorem bt_ord : bootBuiltins "ord" = some (.builtin "ord") := by decide +kernel
theorem bt_chr : bootBuiltins "chr" = some (.builtin "chr") := by decide +kernel
theorem bt_bool : bootBuiltins "bool" = some (.type "bool") := by decide +kernel
theorem bt_dict : bootBuiltins "dict" = some (.type "dict") := by decide +kernel
theorem bt_int : bootBuiltins "int" = some (.type "int") := by decide +kernel
theorem bt_list : bootBuiltins "list" = some (.type "list") := by decide +kernel
theorem bt_set : bootBuiltins "set" = some (.type "set") := by decide +kernel
theorem bt_str : bootBuiltins "str" = some (.type "str") := by decide +kernel
theorem bt_tuple : bootBuiltins "tuple" = some (.type "tuple") := by decide +kernel
/-! ### list(reversed(l)) -/
section
variable {prog : Program} {w : World} {A : Around} {E : Value → Shared → Prop} {s : Shared}
theorem extend_rev {it l S : Addr} {items : Array Value} {c0 : Nat} {R : Result → Shared → Prop} (hh : A.handled = none) (hit : s.heap.IsRevIter it l ((items.size : Int) - 1)) (hl : s.heap.IsList l items) (hne : l ≠ it) (hn : items.size ≤ sizeLine)
    (hS : s.heap.get? S = some { cls := .type "list", data := .seq #[] c0 }) (hSi : S ≠ it) (hSl : S ≠ l)
    (hR : ∀ s' acc c', (∀ b o, b ≠ S → b ≠ it → s.heap.get? b = some o → s'.heap.get? b = some o) → (∃ h' tk, s' = { s with heap := h', toks := tk }) →
      s'.heap.get? S = some { cls := .type "list", dict := none, data := .seq acc c', slots := #[] } → ItemsOf (fun i v => items[items.size - 1 - i]? = some v) acc items.size → R (.ok (.ret .none)) s') :
    wpAny (model prog w) A.in1 (Builtin.List.listExtendWith (.ref S) (.ref it) .none)
      (fun fin s' => match fin with | .done f => R (.ok f) s' | .again c' => c'.quiet = true ∧ codeAny (model prog w) A c' R s') (fun e s' => R (.error e) s') s := by
  have W := (Walks.listRev (prog := prog) (w := w) (A := A.in1) hh it l hne items).toS
  have hSf : S ∉ [it, l] := by simp only [List.mem_cons, List.not_mem_nil, or_false, not_or]; exact ⟨hSi, hSl⟩
  have hT := hit.typeIs
  have h1 : Builtin.List.listSameRef (.ref S) (.ref it) = false := by simp [Builtin.List.listSameRef, hSi]
  unfold Builtin.List.listExtendWith
  refine wpAny_bind (wpAny_typeOf hT ?_)
  rw [if_neg (by rw [h1]; decide)]
  refine wpAny_bind (wpAny_pyIter_revIter hit ?_)
  refine wpAny_bind (wpAny_holding ?_)
  unfold Builtin.List.listLengthHint
  refine wpAny_bind (wpAny_specialOf hT RT.nolen_lri ?_)
  show wpAny _ A.in1 (specialOf (Value.ref it) (Str.ofString "__length_hint__") >>= _) _ _ _
  refine wpAny_bind (wpAny_specialOf hT RT.hint_lri ?_)
  generalize hid : ("list_reverseiterator.__length_hint__" : String) = id0
  wp_delta
  rw [show splitId id0 = some ("list_reverseiterator", "__length_hint__") from by subst hid; decide +kernel]
  subst hid
  refine wpAny_bind (wpAny_isInstance (b := true) hT (by rw [isSubtype_type]; kernel_rfl) ?_)
  refine wpAny_pure ?_
  rw [if_neg (by decide)]
  have e0 : ((items.size : Nat) : Int) - 1 - ((0 : Nat) : Int) = (items.size : Int) - 1 := by omega
  refine wpAny_pure ⟨plainId_quiet F.plain_extend_loop _, codeAny_extend_loopS W hn _ hSf _ items.size 0 _ _ _ rfl (Nat.zero_le _) ⟨Nat.zero_le _, by rw [e0]; exact hit, hl⟩ hS (ItemsOf.nil _) fun s' acc' c' hm hS' hacc => ?_⟩
  refine hR s' acc' c' (fun b o hb hb2 e => hm.heap b o (fun hmem => ?_) e) ⟨_, _, Moved.eq_with hm⟩ hS' hacc
  rcases List.mem_cons.mp hmem with e' | hmem
  · exact hb e'
  · exact hb2 (List.mem_singleton.mp hmem)
theorem call_list_rev {it l : Addr} {items : Array Value} {Q : Value → Shared → Prop} (hh : A.handled = none) (hit : s.heap.IsRevIter it l ((items.size : Int) - 1)) (hl : s.heap.IsList l items) (hne : l ≠ it) (hn : items.size ≤ sizeLine)
    (hQ : ∀ h' tk acc c', (∀ b o, b ≠ it → s.heap.get? b = some o → h'.get? b = some o) → h'.get? s.heap.objs.size = some { cls := .type "list", dict := none, data := .seq acc c', slots := #[] } →
      ItemsOf (fun i v => items[items.size - 1 - i]? = some v) acc items.size → Q (.ref s.heap.objs.size) { s with heap := h', toks := tk }) :
    wpAny (model prog w) A (call (.type "list") [.ref it]) Q E s := by
  obtain ⟨oi, hoi, _⟩ := id hit
  obtain ⟨ol, hol, _⟩ := id hl
  have hSi : s.heap.objs.size ≠ it := Nat.ne_of_gt (Heap.lt_size hoi)
  have hSl : s.heap.objs.size ≠ l := Nat.ne_of_gt (Heap.lt_size hol)
  refine callType_codes (Q₁ := fun obj s₁ => obj = .ref s.heap.objs.size ∧ s₁ = { s with heap := s.heap.push { cls := .type "list", data := .seq #[] } }) F.called_list (F.typeCall_list_1 _) F.entry_list_init
    (code_list_new _ ⟨rfl, rfl⟩) fun obj s₁ h₁ => ?_
  obtain ⟨rfl, rfl⟩ := h₁
  have hS : (s.heap.push { cls := .type "list", data := .seq #[] }).get? s.heap.objs.size = some { cls := .type "list", data := .seq #[] } := Heap.get?_push_size _ rfl
  refine ⟨⟨_, hS, rfl⟩, F.args_list_init_2 _ _, ?_⟩
  show wpAny _ A.in1.in1 (do let old ← Builtin.List.listItems (.ref s.heap.objs.size); Builtin.List.listUpdate (.ref s.heap.objs.size) (fun _ => #[]); letGo old.toList.reverse; Builtin.List.listExtendWith (.ref s.heap.objs.size) (.ref it) .none) _ _ _
  refine wpAny_bind ?_
  unfold Builtin.List.listItems
  refine wpAny_bind (wpAny_seqItems hS rfl (wpAny_pure ?_))
  show wpAny _ _ (updateSeq s.heap.objs.size (fun _ => #[]) >>= fun _ => letGo (#[] : Array Value).toList.reverse >>= fun _ => Builtin.List.listExtendWith (.ref s.heap.objs.size) (.ref it) .none) _ _ _
  refine wpAny_bind (wpAny_updateSeq hS rfl ?_)
  have hS2 := Heap.get?_update_self (Obj.mapSeq (fun _ => (#[] : Array Value))) hS rfl
  have oth : ∀ b o, s.heap.get? b = some o → ((s.heap.push { cls := .type "list", data := .seq #[] }).update s.heap.objs.size (Obj.mapSeq (fun _ => (#[] : Array Value)))).get? b = some o :=
    fun b o e => (Heap.get?_update_other _ _ (Nat.ne_of_gt (Heap.lt_size e))).trans (Heap.get?_push_of_some _ e)
  refine wpAny_bind (wpAny_letGo ?_)
  refine extend_rev (A := A.in1) hh (hit.at fun o e => oth _ o e) (Heap.IsList.at hl fun o e => oth _ o e) hne hn hS2 hSi hSl fun s' acc c' hk he hS' hi => ?_
  obtain ⟨h', tk, rfl⟩ := he
  exact ⟨rfl, hQ h' tk acc c' (fun b o hb e => hk b o (Nat.ne_of_lt (Heap.lt_size e)) hb (oth b o e)) hS' hi⟩
end
/-- list(reversed(x)), x a list: a new list -/
def tListRev (K : PySem.W.Frag) (te : TE) : TE := fun σ H Q => te σ H fun v H1 => ∃ (a : Addr) (xs : List V), v = .ref a ∧ SqL K H1 a xs ∧ ∀ q, H1 q = none → Q (.ref q) (upd H1 q (.lst xs.reverse))
section
variable {X : Cx}
theorem pe_listRev0 {e : Expr} {te : TE} {p p2 pos pos2 : Pos} (hc : X.calm = true) (hg : Gl X "list") (hm : X.mg "list" = none) (hg2 : Gl X "reversed") (hm2 : X.mg "reversed" = none) (he : PE X e te)
    (hs : starEach [e] X.env = (false, eval e X.env) :: starEach [] X.env := by rfl)
    (hs2 : starEach [.Call (.Name "reversed" p2) [e] [] pos2] X.env = (false, eval (.Call (.Name "reversed" p2) [e] [] pos2) X.env) :: starEach [] X.env := by rfl) :
    PE X (.Call (.Name "list" p) [.Call (.Name "reversed" p2) [e] [] pos2] [] pos) (tListRev X.K te) := by
  refine ⟨fun pins s σ H Q I h => ?_⟩
  refine Call_ (ld_blt I hg hm boot_list (PyProof.Rows.callWith_type1 (args_cons (Call_ (ld_blt I hg2 hm2 PyProof.Rows.boot_reversed (PyProof.Rows.callWith_type1 (args_cons (thn (he.run pins s σ H _ I h) fun u s1 ⟨v, H1, I1, r1, q1⟩ => args_nil ?_) hs) hs rfl))) hs2) hs2 rfl))
  obtain ⟨a, xs, ev, hq, q⟩ := q1
  subst ev
  obtain rfl : u = Value.ref a := r1
  obtain ⟨its, rv, p', hz⟩ := I1.list hq
  refine call_reversed_list p'.isList (args_nil ?_)
  have k0 : ∀ b o, s1.heap.get? b = some o → (s1.heap.push (revObj a ((its.toArray.size : Int) - 1))).get? b = some o := fun b o e => Heap.get?_push_of_some _ e
  have I2 : Inv X pins σ H1 { s1 with heap := s1.heap.push (revObj a ((its.toArray.size : Int) - 1)) } := I1.kept (t' := s1.toks) k0
  obtain ⟨f0, f1, f2, f3, f4, f5⟩ := I1.fpOk (H' := H1) (b := s1.heap.objs.size) (Nat.le_refl _) (I1.hok.fresh (Nat.le_refl _))
  have hl := p'.isList
  obtain ⟨ol, hol, _⟩ := id hl
  have hne : a ≠ s1.heap.objs.size := Nat.ne_of_lt (Heap.lt_size hol)
  have hn : its.toArray.size ≤ sizeLine := by rw [List.size_toArray, ← rv.length]; exact hz
  refine call_list_rev (s := { s1 with heap := s1.heap.push (revObj a ((its.toArray.size : Int) - 1)) }) (I1.ok.hd hc) ⟨_, Heap.get?_push_size _ rfl, rfl, rfl⟩ (hl.push _) hne hn fun h' tk acc c' hk hS' hi => ?_
  refine ⟨.ref _, upd H1 _ (.lst xs.reverse), I1.laid (t' := tk) (fun b u e => hk b u (Nat.ne_of_lt (Heap.lt_size e)) (k0 b u e)) (by rw [Heap.size_push]; omega) (show ObjOk X.prog X.w _ _ _ (.lst xs.reverse) from ⟨by rw [List.length_reverse]; exact hz, acc.toList, c', RT.vals_rev rv hi, ?_⟩), rfl, q _ (I2.hok.fresh (Nat.le_refl _))⟩
  rw [Array.toArray_toList]
  exact hS'
theorem pe_listRev {K : PySem.W.Frag} {e : Expr} {te : TE} {p p2 pos pos2 : Pos} (hc : X.calm = true) (hg : Gl X "list") (hm : X.mg "list" = none) (hg2 : Gl X "reversed") (hm2 : X.mg "reversed" = none) (he : PE X e te)
    (hs : starEach [e] X.env = (false, eval e X.env) :: starEach [] X.env := by rfl)
    (hs2 : starEach [.Call (.Name "reversed" p2) [e] [] pos2] X.env = (false, eval (.Call (.Name "reversed" p2) [e] [] pos2) X.env) :: starEach [] X.env := by rfl) (hK : X.K = K := by rfl) :
    PE X (.Call (.Name "list" p) [.Call (.Name "reversed" p2) [e] [] pos2] [] pos) (tListRev K te) := hK ▸ pe_listRev0 hc hg hm hg2 hm2 he hs hs2
/-! ### list(a text) -/
theorem call_listS (hc : X.calm = true) : CallR X (.type "list") (fun xs H Q => ∃ z : Str, xs = [.str z] ∧ z.length ≤ sizeLine ∧ ∀ l, H l = none → Q (.ref l) (upd H l (.lst (z.cps.toList.map fun c => V.str ⟨#[c]⟩)))) := by
  intro pins s σ H xs us Q I r h
  obtain ⟨z, rfl, hz, q⟩ := h
  obtain ⟨u, rfl, t, rfl⟩ := vals1 r
  refine PySem.call_list_str (I.ok.hd hc) z t (fun h' tk acc' c' hk hS hi => ?_) hz
  refine ⟨.ref s.heap.objs.size, upd H s.heap.objs.size _, I.laid hk (Nat.le_refl _) (show ObjOk X.prog X.w _ _ _ (.lst (z.cps.toList.map fun c => V.str ⟨#[c]⟩)) from ⟨?_, acc'.toList, c', ?_, ?_⟩), rfl, q _ (I.hok.fresh (Nat.le_refl _))⟩
  · rw [List.length_map, Array.length_toList]; exact hz
  · have el : acc'.toList.length = acc'.size := by simp
    refine vals_of_at (by rw [List.length_map, Array.length_toList, el, hi.1]) fun j x w h1 h2 => ?_
    have h3 := hi.2 j w (by rw [← Array.getElem?_toList]; exact h2)
    rw [List.getElem?_map] at h1
    obtain ⟨c, hc1, rfl⟩ := Option.map_eq_some_iff.mp h1
    obtain ⟨c2, u, e1, rfl⟩ := h3
    rw [Array.getElem?_toList] at hc1
    rw [hc1] at e1
    cases e1
    exact ⟨u, rfl⟩
  · rw [Array.toArray_toList]; exact hS
end
end CB

set_option Elab.async false
set_option linter.all false
set_option maxRecDepth 100000
set_option maxHeartbeats 2000000
/-! zip of two sequences, each a list or a tuple, in any mix -/
namespace CB
open PySem PySem.Spec PyProof.Rows L2
inductive SK | L | T
def SqK (k : SK) (K : PySem.W.Frag) (H : Hp) (a : Addr) (xs : List V) : Prop := match k with | .L => SqL K H a xs | .T => SqT K H a xs
def IterK (k : SK) (h : Heap) (it a : Addr) (i : Nat) : Prop := match k with | .L => h.IsListIter it a i | .T => h.IsTupleIter it a i
def HasK (k : SK) (h : Heap) (a : Addr) (items : Array Value) : Prop := match k with | .L => h.IsList a items | .T => h.IsTuple a items
def iterObj (k : SK) (a : Addr) : Obj := match k with | .L => { cls := .type "list_iterator", data := .fields #[.ref a, .int 0 0] } | .T => { cls := .type "tuple_iterator", data := .fields #[.ref a, .int 0 0] }
section
variable {k : SK} {h h' : Heap} {it a : Addr} {i : Nat} {items : Array Value}
theorem IterK.at (x : IterK k h it a i) (e : ∀ o, h.get? it = some o → h'.get? it = some o) : IterK k h' it a i := by
  cases k with
  | L => exact Heap.IsListIter.at x e
  | T => exact Heap.IsTupleIter.at x e
theorem IterK.obj (x : IterK k h it a i) : ∃ o, h.get? it = some o ∧ ∀ v, o.data ≠ .cell v := by
  cases k with
  | L =>
    obtain ⟨o, e, _, d⟩ := x
    exact ⟨o, e, fun v q => by rw [d] at q; cases q⟩
  | T =>
    obtain ⟨o, e, _, d⟩ := x
    exact ⟨o, e, fun v q => by rw [d] at q; cases q⟩
theorem IterK.start (e : h.get? it = some (iterObj k a)) : IterK k h it a 0 := by
  cases k with
  | L => exact ⟨_, e, rfl, rfl⟩
  | T => exact ⟨_, e, rfl, rfl⟩
theorem HasK.lt (x : HasK k h a items) : a < h.objs.size := by
  cases k with
  | L => obtain ⟨o, e, _⟩ := x; exact Heap.lt_size e
  | T => obtain ⟨o, e, _⟩ := x; exact Heap.lt_size e
theorem drawsK {prog : Program} {w : World} {A : Around} (hh : A.handled = none) (k : SK) (it a : Addr) (hne : a ≠ it) (items : Array Value) :
    Draws prog w A it [it, a] items.size (fun i v => items[i]? = some v) (fun i h => IterK k h it a i ∧ HasK k h a items) := by
  cases k with
  | L => exact Draws.list hh it a hne items
  | T => exact Draws.tuple hh it a hne items
theorem beginsK (k : SK) (a : Addr) (items : Array Value) : Begins (.ref a) (iterObj k a) fun h => HasK k h a items := by
  cases k with
  | L => exact begins_list a items
  | T => exact begins_tuple a items
theorem InvK {X : Cx} {pins : List (Addr × Obj)} {σ : L2.St} {H : Hp} {s : Shared} {xs : List V} (I : Inv X pins σ H s) (hq : SqK k X.K H a xs) : ∃ its : List Value, Vals xs its ∧ HasK k s.heap a its.toArray ∧ ∀ ys, SqK k X.K H a ys → ys = xs := by
  cases k with
  | L =>
    obtain ⟨its, rv, p, _⟩ := I.list hq
    exact ⟨its, rv, p.isList, fun ys hy => I.list_inj hy hq⟩
  | T =>
    obtain ⟨its, rv, p, _⟩ := I.tuple hq
    exact ⟨its, rv, p, fun ys hy => I.tuple_inj hy hq⟩
end
def ItzK (k1 k2 : SK) (K : PySem.W.Frag) (a b : Addr) : It :=
  ⟨fun i H => ∃ (xs ys : List V) (x y : V), SqK k1 K H a xs ∧ SqK k2 K H b ys ∧ xs[i]? = some x ∧ ys[i]? = some y,
    fun i H v H' => ∃ T x y, v = .ref T ∧ H T = none ∧ H' = upd H T (.tup [x, y]) ∧ (∀ xs, SqK k1 K H a xs → xs[i]? = some x) ∧ ∀ ys, SqK k2 K H b ys → ys[i]? = some y,
    fun i H => ∃ xs ys : List V, SqK k1 K H a xs ∧ SqK k2 K H b ys ∧ i ≤ xs.length ∧ i ≤ ys.length ∧ (i = xs.length ∨ i = ys.length)⟩
theorem turn_zipK {P : Program} {w : World} {K : PySem.W.Frag} {elts : List Expr} {kk : Nat} {tpos : Pos} {k1 k2 : SK} {a b z TI TO i1 i2 : Addr} (S : ZipSep2 z TI TO i1 i2 [i1, a] [i2, b]) (na : a ≠ i1) (nb : b ≠ i2) :
    Turn P w K (.Tuple elts kk tpos) (ItzK k1 k2 K a b) [z, TI, TO, i1, i2] z (fun i h => IsZip h z TI TO .none ∧ IsTupOf2 h TI (.ref i1) (.ref i2) ∧ (∃ x y, IsTupOf2 h TO x y) ∧ IterK k1 h i1 a i ∧ IterK k2 h i2 b i) where
  mem := by simp
  obj := fun i h st c hc => by
    obtain ⟨hz, hTI, ⟨x, y, hTO⟩, h1, h2⟩ := st
    simp only [List.mem_cons, List.not_mem_nil, or_false] at hc
    rcases hc with rfl | rfl | rfl | rfl | rfl
    · exact ⟨_, hz, fun v q => nomatch q⟩
    · exact ⟨_, hTI, fun v q => nomatch q⟩
    · exact ⟨_, hTO, fun v q => nomatch q⟩
    · exact h1.obj
    · exact h2.obj
  keep := fun i h h' st k => by
    obtain ⟨hz, hTI, ⟨x, y, hTO⟩, h1, h2⟩ := st
    exact ⟨k z (by simp) _ hz, k TI (by simp) _ hTI, ⟨x, y, k TO (by simp) _ hTO⟩, h1.at fun o q => k i1 (by simp) o q, h2.at fun o q => k i2 (by simp) o q⟩
  item := by
    intro X hP hw hK hc i pins s σ H E I hf st hg
    subst hP hw hK
    obtain ⟨hz, hTI, ⟨x0, y0, hTO⟩, h1, h2⟩ := st
    obtain ⟨xs, ys, x, y, hqx, hqy, hx, hy⟩ := hg
    obtain ⟨its, rv, p, inj1⟩ := InvK I hqx
    obtain ⟨its2, rv2, p2, inj2⟩ := InvK I hqy
    obtain ⟨u, hu, ru⟩ := rv.get hx
    obtain ⟨u2, hu2, ru2⟩ := rv2.get hy
    have hA : X.A.in1.handled = none := I.ok.hd hc
    have D1 := drawsK (prog := X.prog) (w := X.w) hA k1 i1 a na its.toArray
    have D2 := drawsK (prog := X.prog) (w := X.w) hA k2 i2 b nb its2.toArray
    have hzl : z < s.heap.objs.size := Heap.lt_size hz
    have lt1 : i < its.toArray.size := by
      have := (List.getElem?_eq_some_iff.mp hu).1
      simpa using this
    have lt2 : i < its2.toArray.size := by
      have := (List.getElem?_eq_some_iff.mp hu2).1
      simpa using this
    refine wpAny_pyNext_zipD2_item S D1 D2 hz hTI hTO ⟨h1, p⟩ ⟨h2, p2⟩ lt1 lt2 fun x1 x2 h' tk y1 y2 z' TO' st1 st2 hT hsz hk => ?_
    have e1 : x1 = u := by
      have q : its.toArray[i]? = some u := by simpa using hu
      rw [q] at y1
      exact (Option.some.inj y1).symm
    have e2 : x2 = u2 := by
      have q : its2.toArray[i]? = some u2 := by simpa using hu2
      rw [q] at y2
      exact (Option.some.inj y2).symm
    subst e1 e2
    refine ⟨_, rfl, wpAny_letOwnedTupleGo_zip (s := { s with heap := h', toks := tk }) z' fun h'' z'' sb => ?_⟩
    have hT2 : h''.get? s.heap.objs.size = some { cls := .type "tuple", data := .seq #[x1, x2] } := (sb.2 _ (Nat.ne_of_gt hzl)).trans hT
    have new : ObjOk X.prog X.w (upd H s.heap.objs.size (.tup [x, y])) h'' s.heap.objs.size (.tup [x, y]) :=
      ⟨by show 2 ≤ sizeLine; decide, [x1, x2], .cons ru (.cons ru2 .nil), ⟨_, hT2, rfl, _, rfl⟩⟩
    have I1 : Inv X pins σ (upd H s.heap.objs.size (.tup [x, y])) { s with heap := h'', toks := tk } :=
      I.turnedNew (t' := tk) (ch := [z, TI, TO, i1, i2]) (fun c o hb q => by
        simp only [List.mem_cons, List.not_mem_nil, or_false, not_or] at hb
        exact (sb.2 c hb.1).trans (hk c o hb.1 hb.2.2.1 hb.2.2.2.1 hb.2.2.2.2 q)) hf (Nat.le_refl _) new
    refine ⟨.ref s.heap.objs.size, _, I1, rfl, ⟨_, x, y, rfl, I.hok.fresh (Nat.le_refl _), rfl, fun l hl => by rw [inj1 l hl]; exact hx, fun l hl => by rw [inj2 l hl]; exact hy⟩, ⟨z'', ?_, ⟨x1, x2, ?_⟩, ?_, ?_⟩, fun c hcm => ?_⟩
    · exact (sb.2 _ S.TIz).trans (hk _ _ S.TIz S.TITO S.TIi1 S.TIi2 hTI)
    · exact (sb.2 _ S.TOz).trans TO'
    · exact st1.1.at fun o q => (sb.2 _ S.zi1.symm).trans q
    · exact st2.1.at fun o q => (sb.2 _ S.zi2.symm).trans q
    · have hlt : c < s.heap.objs.size := by
        simp only [List.mem_cons, List.not_mem_nil, or_false] at hcm
        rcases hcm with rfl | rfl | rfl | rfl | rfl
        · exact hzl
        · exact Heap.lt_size hTI
        · exact Heap.lt_size hTO
        · obtain ⟨_, e1, _⟩ := h1.obj; exact Heap.lt_size e1
        · obtain ⟨_, e2, _⟩ := h2.obj; exact Heap.lt_size e2
      rw [upd_ne (Nat.ne_of_lt hlt)]
      exact (hf c hcm).1
  done := by
    intro X hP hw hK hc i pins s σ H E I hf st hg
    subst hP hw hK
    obtain ⟨hz, hTI, ⟨x0, y0, hTO⟩, h1, h2⟩ := st
    obtain ⟨xs, ys, hqx, hqy, le1, le2, hend⟩ := hg
    obtain ⟨its, rv, p, inj1⟩ := InvK I hqx
    obtain ⟨its2, rv2, p2, inj2⟩ := InvK I hqy
    have l1 := rv.length
    have l2 := rv2.length
    have hA : X.A.in1.handled = none := I.ok.hd hc
    refine wpAny_pyNext_zipD2_end S (drawsK (prog := X.prog) (w := X.w) hA k1 i1 a na its.toArray) (drawsK (prog := X.prog) (w := X.w) hA k2 i2 b nb its2.toArray) hz hTI hTO ⟨h1, p⟩ ⟨h2, p2⟩ (by rw [List.size_toArray]; omega) (by rw [List.size_toArray]; omega) (by rw [List.size_toArray, List.size_toArray]; omega) fun h' tk hk => ?_
    refine ⟨rfl, I.turnedL (t' := tk) (ch := [z, TI, TO, i1, i2]) (fun c o hb q => ?_) hf⟩
    simp only [List.mem_cons, List.not_mem_nil, or_false, not_or] at hb
    exact hk c o hb.1 hb.2.2.1 hb.2.2.2.1 hb.2.2.2.2 q
  self := fun A i s Q E st h => wpAny_pyIter_zip st.1 h
def iZipK (k1 k2 : SK) (K : PySem.W.Frag) (ta : TA) : TI := fun σ H R => ta σ H fun vs H1 => ∃ a b xs ys, vs = [.ref a, .ref b] ∧ SqK k1 K H1 a xs ∧ SqK k2 K H1 b ys ∧ R (ItzK k1 k2 K a b) H1
theorem pi_zipM (k1 k2 : SK) {X : Cx} {K : PySem.W.Frag} {e e2 : Expr} {ta : TA} {p pos tpos : Pos} {elts : List Expr} {kk : Nat} (hg : Gl X "zip") (hm : X.mg "zip" = none) (ha : PA X [e, e2] ta)
    (hs : starEach [e, e2] X.env = (false, eval e X.env) :: starEach [e2] X.env := by rfl) (hpl : (backTo pos (starEach [e2] X.env)).any (·.1) = false := by rfl) (hK : X.K = K := by rfl) :
    PI X (.Tuple elts kk tpos) (.Call (.Name "zip" p) [e, e2] [] pos) (iZipK k1 k2 K ta) := by
  subst hK
  refine ⟨fun pins s σ H R I h => ?_⟩
  refine Call_ (ld_blt I hg hm PyProof.Rows.boot_zip (PyProof.Rows.callWith_type1 (thn (ha.run pos pins s σ H _ I h) fun us s1 hus => ?_) hs hpl))
  obtain ⟨vs, H1, I1, r1, a, b, xs, ys, rfl, hqx, hqy, q⟩ := hus
  obtain ⟨u1, u2, rfl, ra, rb⟩ := vals2 r1
  obtain rfl : u1 = Value.ref a := ra
  obtain rfl : u2 = Value.ref b := rb
  obtain ⟨its, rv, p1, _⟩ := InvK I1 hqx
  obtain ⟨its2, rv2, p2, _⟩ := InvK I1 hqy
  refine zip_begins2 (beginsK k1 a its.toArray) (beginsK k2 b its2.toArray) p1 p2 fun h' hz hTI hTO h1 h2 hsz hk => wpAny_pyIter_zip hz ?_
  have I2 : Inv X pins σ H1 { s1 with heap := h' } := I1.kept (t' := s1.toks) hk
  have la : a < s1.heap.objs.size := p1.lt
  have lb : b < s1.heap.objs.size := p2.lt
  have S : ZipSep2 (s1.heap.objs.size + 4) (s1.heap.objs.size + 2) (s1.heap.objs.size + 3) s1.heap.objs.size (s1.heap.objs.size + 1) (s1.heap.objs.size :: [a]) ((s1.heap.objs.size + 1) :: [b]) :=
    zip_sep2 (fun c hc => by rw [List.mem_singleton.mp hc]; exact la) (fun c hc => by rw [List.mem_singleton.mp hc]; exact lb)
  refine ⟨s1.heap.objs.size + 4, [s1.heap.objs.size + 4, s1.heap.objs.size + 2, s1.heap.objs.size + 3, s1.heap.objs.size, s1.heap.objs.size + 1], _, _, H1, rfl, I2, turn_zipK S (Nat.ne_of_lt la) (Nat.ne_of_lt (Nat.lt_succ_of_lt lb)), ⟨hz, hTI, ⟨_, _, hTO⟩, IterK.start h1, IterK.start h2⟩, fun c hc => ?_, q⟩
  have hle : s1.heap.objs.size ≤ c := by
    simp only [List.mem_cons, List.not_mem_nil, or_false] at hc
    rcases hc with rfl | rfl | rfl | rfl | rfl
    · exact Nat.le_add_right _ _
    · exact Nat.le_add_right _ _
    · exact Nat.le_add_right _ _
    · exact Nat.le_refl _
    · exact Nat.le_add_right _ _
  have := I1.fpOk (H' := H1) hle (I1.hok.fresh hle)
  exact this
theorem walk_zipM {k1 k2 : SK} {K : PySem.W.Frag} {a b : Addr} {xs ys : List V} {n : Nat} (hn : n = min xs.length ys.length) :
    Walk (ItzK k1 k2 K a b) n (fun H => SqK k1 K H a xs ∧ SqK k2 K H b ys) (YPair (fun i => xs[i]?) (fun i => ys[i]?)) := by
  subst hn
  refine ⟨fun i _ hi q => ?_, fun _ q => ⟨xs, ys, q.1, q.2, by omega, by omega, by omega⟩, fun i H v H' _ q y => ?_⟩
  · have h1 : i < xs.length := by omega
    have h2 : i < ys.length := by omega
    exact ⟨xs, ys, xs[i], ys[i], q.1, q.2, by simp [h1], by simp [h2]⟩
  · obtain ⟨T, x, z, h1, h2, h3, h4, h5⟩ := y
    exact ⟨T, x, z, h1, h2, h3, h4 xs q.1, h5 ys q.2⟩
/-! ### xs.extend(t), t a list or a tuple -/
section
variable {prog : Program} {w : World} {A : Around} {E : Value → Shared → Prop} {s : Shared}
theorem call_extend_seq {k : SK} {l b : Addr} {its its2 : Array Value} {n : Nat} {Q : Value → Shared → Prop} (hl : s.heap.get? l = some { cls := .type "list", data := .seq its n }) (hb : HasK k s.heap b its2) (hz : its.size + its2.size ≤ sizeLine)
    (h : Q .none { s with heap := s.heap.update l (Obj.mapSeq (· ++ its2)) }) : wpAny (model prog w) A (call (.builtin "list.extend") [.ref l, .ref b]) Q E s := by
  have hT : s.TypeIs (.ref l) "list" := ⟨_, hl, rfl⟩
  have hlong : Builtin.List.listTooLong (its.size + its2.size) = false := notLongL hz
  obtain ⟨ob, T, hob, hcb, hTT, nb, hdb⟩ : ∃ (ob : Obj) (T : String), s.heap.get? b = some ob ∧ ob.cls = .type T ∧ (T = "list" ∨ T = "tuple") ∧ ∃ nb, ob.data = .seq its2 nb := by
    cases k with
    | L => obtain ⟨o, e1, e2, n2, e3⟩ := hb; exact ⟨o, "list", e1, e2, .inl rfl, n2, e3⟩
    | T => obtain ⟨o, e1, e2, n2, e3⟩ := hb; exact ⟨o, "tuple", e1, e2, .inr rfl, n2, e3⟩
  refine wpAny_call_entry F.slot_list_extend hT F.entry_list_extend ?_ (F.args_list_extend_2 _ _)
  show wpAny _ _ (Builtin.List.listExtendWith (.ref l) (.ref b) .none) _ _ s
  unfold Builtin.List.listExtendWith
  refine wpAny_bind (wpAny_typeOf (T := T) ⟨ob, hob, hcb⟩ ?_)
  have hc : (Builtin.List.listSameRef (.ref l) (.ref b) || Value.type T == Value.type "list" || Value.type T == Value.type "tuple") = true := by
    rcases hTT with rfl | rfl
    · simp
    · simp
  rw [if_pos hc]
  refine wpAny_bind (wpAny_listItems hob hdb ?_)
  refine wpAny_bind (wpAny_listItems hl rfl ?_)
  rw [hlong, Bool.and_false]
  refine wpAny_bind ?_
  show wpAny _ _ (updateSeq l (· ++ its2)) _ _ _
  refine wpAny_updateSeq hl rfl (wpAny_pure ⟨_, rfl, h⟩) (by omega) (by rw [Array.size_append]; omega)
end
section
variable {X : Cx}
def rExtK (k : SK) (K : PySem.W.Frag) : V → List V → Hp → VK → Prop := fun x vs H Q => ∃ l b xs zs, x = .ref l ∧ vs = [.ref b] ∧ H l = some (.lst xs) ∧ SqK k K H b zs ∧ xs.length + zs.length ≤ sizeLine ∧ Q .non (upd H l (.lst (xs ++ zs)))
theorem mt_extK (k : SK) {K : PySem.W.Frag} (hK : X.K = K := by rfl) : MtR X "list.extend" (rExtK k K) := by
  subst hK
  intro pins s σ H x vs v us Q I rx rv h
  obtain ⟨l, b, xs, zs, rfl, rfl, hH, hB, hz, q⟩ := h
  cases rx
  obtain ⟨u, rfl, ru⟩ := rv.one
  cases ru
  obtain ⟨z, its, n, r, hl, e⟩ := I.lstM hH
  obtain ⟨its2, r2, h2, _⟩ := InvK I hB
  have l2 := r2.length
  refine call_extend_seq e h2 (by rw [List.size_toArray, List.size_toArray]; omega) ?_
  refine ⟨.non, _, I.lset (its' := its ++ its2) hH e (by simp) (r.append r2) ?_, rfl, q⟩
  rw [List.length_append]
  omega
end
end CB

set_option Elab.async false
set_option linter.all false
set_option maxRecDepth 100000
set_option maxHeartbeats 2000000
namespace CB
open PySem PySem.Spec PyProof.Rows L2

abbrev Ex := Evl.Ex
/-! ### what is frozen (F) within what stands (H) -/
structure Gr (S : Addr → Prop) (F H F' H' : Hp) : Prop where
  fz : Ex F F'
  sub : Ex F' H'
  kp : ∀ a o, ¬ S a → H a = some o → H' a = some o
  al : ∀ a, H a ≠ none → H' a ≠ none
  nf : ∀ a, F a = none → H a ≠ none → F' a = none
abbrev NoS : Addr → Prop := fun _ => False
abbrev DL (d l : Addr) : Addr → Prop := fun a => a = d ∨ a = l
section
variable {S : Addr → Prop} {F H F1 H1 F2 H2 : Hp} {p : Addr} {o x : HO}
theorem Gr.refl (h : Ex F H) : Gr S F H F H := ⟨fun _ _ e => e, h, fun _ _ _ e => e, fun _ e => e, fun _ e _ => e⟩
theorem Gr.trans (g : Gr S F H F1 H1) (k : Gr S F1 H1 F2 H2) : Gr S F H F2 H2 :=
  ⟨g.fz.trans k.fz, k.sub, fun a o n e => k.kp a o n (g.kp a o n e), fun a e => k.al a (g.al a e), fun a e n => k.nf a (g.nf a e n) (g.al a n)⟩
theorem Gr.mono {S' : Addr → Prop} (g : Gr S F H F1 H1) (h : ∀ a, S a → S' a) : Gr S' F H F1 H1 :=
  ⟨g.fz, g.sub, fun a o n e => g.kp a o (fun z => n (h a z)) e, g.al, g.nf⟩
theorem Gr.pure (g : Gr NoS F H F1 H1) : Gr S F H F1 H1 := g.mono fun _ h => h.elim
theorem Gr.ex (g : Gr NoS F H F1 H1) : Ex H H1 := fun a o e => g.kp a o (fun h => h) e
theorem sub_none (h : Ex F H) (e : H p = none) : F p = none := Evl.fresh_back h e
/-- a new object, frozen at once -/
theorem Gr.new (g : Gr S F H F1 H1) (hp : H1 p = none) : Gr S F H (upd F1 p o) (upd H1 p o) := by
  have hf : F1 p = none := sub_none g.sub hp
  refine ⟨g.fz.trans (Evl.Ex.new hf), fun a u e => ?_, fun a u n e => ?_, fun a e => ?_, fun a e n => ?_⟩
  · by_cases h : a = p
    · subst h; rw [upd_same] at e ⊢; exact e
    · rw [upd_ne h] at e ⊢; exact g.sub a u e
  · have := g.kp a u n e
    rw [upd_ne (ne_of_none this hp)]; exact this
  · have := g.al a e
    by_cases h : a = p
    · subst h; exact absurd hp this
    · rw [upd_ne h]; exact this
  · have h : a ≠ p := fun h => g.al a n (h ▸ hp)
    rw [upd_ne h]; exact g.nf a e n
/-- a new object that may still change -/
theorem Gr.newm (g : Gr S F H F1 H1) (hp : H1 p = none) : Gr S F H F1 (upd H1 p o) := by
  refine ⟨g.fz, fun a u e => ?_, fun a u n e => ?_, fun a e => ?_, g.nf⟩
  · have := g.sub a u e
    rw [upd_ne (ne_of_none this hp)]; exact this
  · have := g.kp a u n e
    rw [upd_ne (ne_of_none this hp)]; exact this
  · have := g.al a e
    by_cases h : a = p
    · subst h; exact absurd hp this
    · rw [upd_ne h]; exact this
/-- an object of ours (new since the start, not frozen) changes -/
theorem Gr.mut (g : Gr S F H F1 H1) (hp : H p = none) (hf : F1 p = none) : Gr S F H F1 (upd H1 p o) := by
  refine ⟨g.fz, fun a u e => ?_, fun a u n e => ?_, fun a e => ?_, g.nf⟩
  · rw [upd_ne (ne_of_none e hf)]; exact g.sub a u e
  · rw [upd_ne (ne_of_none e hp)]; exact g.kp a u n e
  · by_cases h : a = p
    · subst h; rw [upd_same]; exact fun z => by cases z
    · rw [upd_ne h]; exact g.al a e
/-- an object of ours is frozen -/
theorem Gr.freeze (g : Gr S F H F1 H1) (hp : H p = none) (hf : F1 p = none) (ho : H1 p = some o) : Gr S F H (upd F1 p o) H1 := by
  refine ⟨g.fz.trans (Evl.Ex.new hf), fun a u e => ?_, g.kp, g.al, fun a e n => ?_⟩
  · by_cases h : a = p
    · subst h; rw [upd_same] at e; cases e; exact ho
    · rw [upd_ne h] at e; exact g.sub a u e
  · have h : a ≠ p := fun h => n (h ▸ hp)
    rw [upd_ne h]; exact g.nf a e n
/-- what is not frozen and stands stays so -/
theorem Gr.keepm (g : Gr S F H F1 H1) (hs : ¬ S p) (hf : F p = none) (ho : H p = some o) : F1 p = none ∧ H1 p = some o :=
  ⟨g.nf p hf (by rw [ho]; exact fun z => by cases z), g.kp p o hs ho⟩
theorem Gr.none (g : Gr S F H F1 H1) (h : H1 p = none) : H p = none := by
  cases e : H p with
  | none => rfl
  | some o => exact absurd h (g.al p (by rw [e]; exact fun z => by cases z))
theorem Gr.exs (g : Gr S F H F1 H1) : Ex F H1 := g.fz.trans g.sub
end
end CB
namespace L2
open PySem PySem.Spec PyProof.Rows CB
section
variable {K : PySem.W.Frag} {F F' H : Hp} {a : Addr} {xs : List V}
theorem ex_L (e : Ex F F') (h : SqL K F a xs) : SqL K F' a xs := Evl.ex_l e h
theorem ex_T (e : Ex F F') (h : SqT K F a xs) : SqT K F' a xs := Evl.ex_t e h
mutual
theorem Dp.ex (e : Ex F F') : ∀ {v : V} {d : PyData}, Dp K F v d → Dp K F' v d
  | _, _, .non => .non
  | _, _, .bl b => .bl b
  | _, _, .int i => .int i
  | _, _, .str x => .str x
  | _, _, .lst h hs => .lst (ex_L e h) (DpAll.ex e hs)
  | _, _, .tup h hs => .tup (ex_T e h) (DpAll.ex e hs)
theorem DpAll.ex (e : Ex F F') : ∀ {vs : List V} {ds : List PyData}, DpAll K F vs ds → DpAll K F' vs ds
  | _, _, .nil => .nil
  | _, _, .cons h hs => .cons (Dp.ex e h) (DpAll.ex e hs)
end
theorem DpAll.length : ∀ {vs : List V} {ds : List PyData}, DpAll K F vs ds → vs.length = ds.length
  | _, _, .nil => rfl
  | _, _, .cons _ h => by rw [List.length_cons, List.length_cons, DpAll.length h]
theorem DpAll.get : ∀ {vs : List V} {ds : List PyData} {i : Nat} {v : V}, DpAll K F vs ds → vs[i]? = some v → ∃ d, ds[i]? = some d ∧ Dp K F v d
  | _, _, _, _, .nil, e => by simp at e
  | _, _, 0, _, .cons h _, e => by simp at e; subst e; exact ⟨_, rfl, h⟩
  | _, _, i + 1, _, .cons _ h, e => by
    obtain ⟨d, e1, e2⟩ := DpAll.get (i := i) h (by simpa using e)
    exact ⟨d, by simpa using e1, e2⟩
theorem DpAll.get' : ∀ {vs : List V} {ds : List PyData} {i : Nat} {d : PyData}, DpAll K F vs ds → ds[i]? = some d → ∃ v, vs[i]? = some v ∧ Dp K F v d
  | _, _, _, _, .nil, e => by simp at e
  | _, _, 0, _, .cons h _, e => by simp at e; subst e; exact ⟨_, rfl, h⟩
  | _, _, i + 1, _, .cons _ h, e => by
    obtain ⟨d, e1, e2⟩ := DpAll.get' (i := i) h (by simpa using e)
    exact ⟨d, by simpa using e1, e2⟩
theorem DpAll.append : ∀ {vs ws : List V} {ds es : List PyData}, DpAll K F vs ds → DpAll K F ws es → DpAll K F (vs ++ ws) (ds ++ es)
  | _, _, _, _, .nil, h => h
  | _, _, _, _, .cons h hs, k => .cons h (DpAll.append hs k)
theorem DpAll.snoc {vs : List V} {v : V} {ds : List PyData} {d : PyData} (h : DpAll K F vs ds) (k : Dp K F v d) : DpAll K F (vs ++ [v]) (ds ++ [d]) := h.append (.cons k .nil)
theorem DpAll.ints : ∀ ns : List Int, DpAll K F (ns.map V.int) (ns.map PyData.int)
  | [] => .nil
  | n :: r => .cons (.int n) (DpAll.ints r)
theorem DpAll.strs : ∀ ns : List Str, DpAll K F (ns.map V.str) (ns.map PyData.str)
  | [] => .nil
  | n :: r => .cons (.str n) (DpAll.strs r)
theorem ints_of : ∀ {vs : List V} {ns : List Int}, DpAll K F vs (ns.map PyData.int) → vs = ns.map V.int
  | _, [], h => by cases h; rfl
  | _, n :: r, h => by
    cases h with
    | cons h1 h2 => cases h1; rw [ints_of h2]; rfl
end
/-- tuples of ints, tuples of those -/
abbrev ti (ns : List Int) : PyData := .tuple (ns.map PyData.int)
abbrev li (ns : List Int) : PyData := .list (ns.map PyData.int)
abbrev tti (r : List (List Int)) : PyData := .tuple (r.map ti)
abbrev lti (r : List (List Int)) : PyData := .list (r.map ti)
section
variable {K : PySem.W.Frag} {F F' H : Hp} {v : V}
theorem Dp.tup_inv {ds : List PyData} (h : Dp K F v (.tuple ds)) : ∃ a xs, v = .ref a ∧ SqT K F a xs ∧ DpAll K F xs ds := by
  cases h with
  | tup h1 h2 => exact ⟨_, _, rfl, h1, h2⟩
theorem Dp.lst_inv {ds : List PyData} (h : Dp K F v (.list ds)) : ∃ a xs, v = .ref a ∧ SqL K F a xs ∧ DpAll K F xs ds := by
  cases h with
  | lst h1 h2 => exact ⟨_, _, rfl, h1, h2⟩
theorem Dp.ti_inv {ns : List Int} (h : Dp K F v (ti ns)) : ∃ a, v = .ref a ∧ SqT K F a (ns.map V.int) := by
  obtain ⟨a, xs, e, h1, h2⟩ := h.tup_inv
  rw [ints_of h2] at h1
  exact ⟨a, e, h1⟩
theorem Dp.li_inv {ns : List Int} (h : Dp K F v (li ns)) : ∃ a, v = .ref a ∧ SqL K F a (ns.map V.int) := by
  obtain ⟨a, xs, e, h1, h2⟩ := h.lst_inv
  rw [ints_of h2] at h1
  exact ⟨a, e, h1⟩
theorem Dp.of_ti {a : Addr} {ns : List Int} (h : SqT K F a (ns.map V.int)) : Dp K F (.ref a) (ti ns) := .tup h (DpAll.ints ns)
theorem Dp.of_li {a : Addr} {ns : List Int} (h : SqL K F a (ns.map V.int)) : Dp K F (.ref a) (li ns) := .lst h (DpAll.ints ns)
theorem Dp.int_inv {i : Int} (h : Dp K F v (.int i)) : v = .int i := by cases h; rfl
theorem Dp.str_inv {i : Str} (h : Dp K F v (.str i)) : v = .str i := by cases h; rfl
end

end L2
namespace CB
open PySem PySem.Spec PyProof.Rows L2
/-! ### data that may be compared -/
theorem canLay_strs : ∀ l : List Str, (∀ x ∈ l, PyData.strOk x = true) → PyData.canLayAll0 (l.map PyData.str) = true
  | [], _ => rfl
  | x :: r, h => by
    show (PyData.strOk x && PyData.canLayAll0 (r.map PyData.str)) = true
    rw [h x List.mem_cons_self, canLay_strs r fun y hy => h y (List.mem_cons_of_mem _ hy)]
    rfl
theorem canLay_ints : ∀ l : List Int, PyData.canLayAll0 (l.map PyData.int) = true
  | [] => rfl
  | x :: r => by
    show (true && PyData.canLayAll0 (r.map PyData.int)) = true
    rw [canLay_ints r]
    rfl
theorem depth_strs : ∀ l : List Str, PyData.depthAll (l.map PyData.str) = 0
  | [] => rfl
  | x :: r => by
    show max 0 (PyData.depthAll (r.map PyData.str)) = 0
    rw [depth_strs r]
    rfl
theorem shaped_strs (l : List Str) (h : ∀ x ∈ l, PyData.strOk x = true) : SeqAt.shaped (.list (l.map PyData.str)) = true := by
  unfold SeqAt.shaped
  rw [Bool.and_eq_true, decide_eq_true_eq]
  refine ⟨canLay_strs l h, ?_⟩
  show PyData.depthAll (l.map PyData.str) + 1 ≤ 64
  rw [depth_strs]
  decide
/-! ### the drawing of numbers -/
abbrev kSeed : Key := Sum.inr "seed"
abbrev kNumber : Key := Sum.inr "number"
abbrev kLeft : Key := Sum.inr "left"
def dealD (s n : Int) (l : Addr) : List (Key × V) := [(kSeed, .int s), (kNumber, .int n), (kLeft, .ref l)]
theorem deal_seed {s n : Int} {l : Addr} : valV (dealD s n l) kSeed = some (.int s) := by
  exact valV_pos rfl
structure Deal (H : Hp) (d l : Addr) (s n : Int) (ls : List Int) : Prop where
  hd : H d = some (.dK (dealD s n l))
  hl : H l = some (.lst (ls.map V.int))
  s0 : 0 ≤ s
  s1 : s < 2147483648
  n0 : 0 ≤ n
  pos : ∀ x ∈ ls, 0 < x
  len : ls.length ≤ 63
def IsDeal (H : Hp) (d l : Addr) : Prop := ∃ s n ls, Deal H d l s n ls
theorem Deal.ne {H : Hp} {d l : Addr} {s n : Int} {ls : List Int} (h : Deal H d l s n ls) : d ≠ l := ne_of h.hd h.hl (by intro z; cases z)
theorem IsDeal.keep {H H' : Hp} {d l : Addr} (h : IsDeal H d l) (k : ∀ o, H d = some o → H' d = some o) (k2 : ∀ o, H l = some o → H' l = some o) : IsDeal H' d l := by
  obtain ⟨s, n, ls, h⟩ := h
  exact ⟨s, n, ls, k _ h.hd, k2 _ h.hl, h.s0, h.s1, h.n0, h.pos, h.len⟩
theorem ne_sn : ¬ kSeed = kNumber := by decide +kernel
theorem ne_sl : ¬ kSeed = kLeft := by decide +kernel
theorem ne_nl : ¬ kNumber = kLeft := by decide +kernel
theorem deal_number {s n : Int} {l : Addr} : valV (dealD s n l) kNumber = some (.int n) := by
  unfold dealD
  rw [valV_neg ne_sn, valV_pos rfl]
theorem deal_left {s n : Int} {l : Addr} : valV (dealD s n l) kLeft = some (.ref l) := by
  unfold dealD
  rw [valV_neg ne_sl, valV_neg ne_nl, valV_pos rfl]
theorem put_number {s n m : Int} {l : Addr} : putK (dealD s n l) kNumber (.int m) = dealD s m l := by
  unfold putK dealD
  rw [if_pos (by rw [List.any_cons, List.any_cons, decide_eq_true rfl]; simp)]
  simp only [List.map_cons, List.map_nil, if_neg ne_sn, if_true, if_neg (fun h => ne_nl (Eq.symm h))]
theorem put_seed {s n m : Int} {l : Addr} : putK (dealD s n l) kSeed (.int m) = dealD m n l := by
  unfold putK dealD
  rw [if_pos (by rw [List.any_cons, decide_eq_true rfl]; simp)]
  simp only [List.map_cons, List.map_nil, if_true, if_neg (fun h => ne_sn (Eq.symm h)), if_neg (fun h => ne_sl (Eq.symm h))]
theorem merge_deal {s n : Int} {l : Addr} : mergeK [] (dealD s n l) = dealD s n l := by
  have a1 : ([] : List (Key × V)).any (fun kv => decide (kv.1 = kSeed)) = false := rfl
  have a2 : ([(kSeed, V.int s)] : List (Key × V)).any (fun kv => decide (kv.1 = kNumber)) = false := by simp only [List.any_cons, List.any_nil, decide_eq_false ne_sn, Bool.or_false]
  have a3 : ([(kSeed, V.int s), (kNumber, V.int n)] : List (Key × V)).any (fun kv => decide (kv.1 = kLeft)) = false := by simp only [List.any_cons, List.any_nil, decide_eq_false ne_sl, decide_eq_false ne_nl, Bool.or_false]
  have e1 : putK ([] : List (Key × V)) kSeed (.int s) = [(kSeed, .int s)] := by unfold putK; rw [a1]; rfl
  have e2 : putK [(kSeed, V.int s)] kNumber (.int n) = [(kSeed, .int s), (kNumber, .int n)] := by unfold putK; rw [a2]; rfl
  have e3 : putK [(kSeed, V.int s), (kNumber, V.int n)] kLeft (.ref l) = dealD s n l := by unfold putK; rw [a3]; rfl
  show putK (putK (putK [] kSeed (.int s)) kNumber (.int n)) kLeft (.ref l) = _
  rw [e1, e2, e3]
section
variable {H : Hp} {d l : Addr} {s n : Int} {ls : List Int}
theorem Deal.g_seed (h : Deal H d l s n ls) : DGet H d (.str "seed") (some (.int s)) := by
  have e := DGet.k (k := kSeed) h.hd
  rw [deal_seed] at e
  exact e
theorem Deal.g_number (h : Deal H d l s n ls) : DGet H d (.str "number") (some (.int n)) := by
  have e := DGet.k (k := kNumber) h.hd
  rw [deal_number] at e
  exact e
theorem Deal.g_left (h : Deal H d l s n ls) : DGet H d (.str "left") (some (.ref l)) := by
  have e := DGet.k (k := kLeft) h.hd
  rw [deal_left] at e
  exact e
theorem Deal.p_number (h : Deal H d l s n ls) (m : Int) : DPut H d (.str "number") (.int m) (upd H d (.dK (dealD s m l))) := by
  have e := DPut.k (k := kNumber) (v := .int m) h.hd (by show 3 < sizeLine; decide)
  rw [put_number] at e
  exact e
theorem Deal.p_seed (h : Deal H d l s n ls) (m : Int) : DPut H d (.str "seed") (.int m) (upd H d (.dK (dealD m n l))) := by
  have e := DPut.k (k := kSeed) (v := .int m) h.hd (by show 3 < sizeLine; decide)
  rw [put_seed] at e
  exact e
theorem Deal.pop (h : Deal H d l s n ls) (hn : ls ≠ []) : Deal (upd H l (.lst (ls.map V.int).dropLast)) d l s n ls.dropLast :=
  ⟨by rw [upd_ne h.ne]; exact h.hd, by rw [upd_same, List.map_dropLast], h.s0, h.s1, h.n0, fun x hx => h.pos x (List.dropLast_subset _ hx), by have := h.len; rw [List.length_dropLast]; omega⟩
theorem Deal.last (h : Deal H d l s n ls) (hn : ls ≠ []) : ∃ y, 0 < y ∧ (ls.map V.int)[(ls.map V.int).length - 1]? = some (.int y) := by
  refine ⟨ls.getLast hn, h.pos _ (List.getLast_mem hn), ?_⟩
  rw [List.length_map, List.getElem?_map, ← List.getLast?_eq_getElem?, List.getLast?_eq_some_getLast hn]
  rfl
theorem Deal.with_number (h : Deal H d l s n ls) {m : Int} (m0 : 0 ≤ m) : Deal (upd H d (.dK (dealD s m l))) d l s m ls :=
  ⟨upd_same, by rw [upd_ne h.ne.symm]; exact h.hl, h.s0, h.s1, m0, h.pos, h.len⟩
theorem Deal.with_seed (h : Deal H d l s n ls) {m : Int} (m0 : 0 ≤ m) (m1 : m < 2147483648) : Deal (upd H d (.dK (dealD m n l))) d l m n ls :=
  ⟨upd_same, by rw [upd_ne h.ne.symm]; exact h.hl, m0, m1, h.n0, h.pos, h.len⟩
end
theorem fmod_in (x k : Int) (hk : 0 < k) : 0 ≤ x.fmod k ∧ x.fmod k < k := by
  rw [Int.fmod_eq_emod_of_nonneg x (by omega)]
  exact ⟨Int.emod_nonneg _ (by omega), Int.emod_lt_of_pos _ hk⟩
theorem cut_ints (ns : List Int) (lo hi : Option Int) : ∃ ms : List Int, cutV (ns.map V.int) lo hi = ms.map V.int ∧ ms.length ≤ ns.length :=
  ⟨(ns.drop (HT.sIx ns.length 0 lo)).take (HT.sIx ns.length ns.length hi - HT.sIx ns.length 0 lo), by
    unfold cutV
    rw [List.length_map, ← List.map_drop, ← List.map_take], by
    rw [List.length_take, List.length_drop]
    omega⟩
/-- what stands beside the deal stays -/
def Kp (d l : Addr) (H H' : Hp) : Prop := ∀ b o, b ≠ d → b ≠ l → H b = some o → H' b = some o
section
variable {d l p : Addr} {H H1 H2 : Hp} {o : HO}
theorem Kp.refl : Kp d l H H := fun _ _ _ _ e => e
theorem Kp.trans (a : Kp d l H H1) (b : Kp d l H1 H2) : Kp d l H H2 := fun x o h1 h2 e => b x o h1 h2 (a x o h1 h2 e)
theorem Kp.of_ex (a : Ex H H1) : Kp d l H H1 := fun x o _ _ e => a x o e
theorem Kp.of_draw (a : ∀ b, b ≠ d → b ≠ l → H1 b = H b) : Kp d l H H1 := fun x o h1 h2 e => (a x h1 h2).trans e
theorem Kp.mut (a : Kp d l H H1) (h : H p = none) : Kp d l H (upd H1 p o) := fun x u h1 h2 e => by
  rw [upd_ne (ne_of_none e h)]
  exact a x u h1 h2 e
theorem IsDeal.ex (h : IsDeal H d l) (e : Ex H H1) : IsDeal H1 d l := h.keep (fun o => e d o) (fun o => e l o)
theorem IsDeal.upd (h : IsDeal H d l) (hd : p ≠ d) (hl : p ≠ l) : IsDeal (L2.upd H p o) d l := h.keep (fun o e => by rw [upd_ne hd.symm]; exact e) (fun o e => by rw [upd_ne hl.symm]; exact e)
theorem IsDeal.nd (h : IsDeal H d l) (e : H p = none) : p ≠ d ∧ p ≠ l := by
  obtain ⟨s, n, ls, h⟩ := h
  exact ⟨(ne_of_none h.hd e).symm, (ne_of_none h.hl e).symm⟩
/-- an object other than the deal's two -/
theorem IsDeal.ne_str (h : IsDeal H d l) {y : Str} {ys : List V} (e : H p = some (.lst (.str y :: ys))) : p ≠ d ∧ p ≠ l := by
  obtain ⟨s, n, ls, h⟩ := h
  refine ⟨fun z => ?_, fun z => ?_⟩
  · rw [z, h.hd] at e; cases e
  · rw [z, h.hl] at e
    cases ls with
    | nil => cases e
    | cons a r => cases e
end
theorem at_in {xs : List V} {r : Int} (h0 : 0 ≤ r) (h1 : r < xs.length) : ∃ v, atI xs r = some v ∧ v ∈ xs := by
  have h2 : r.toNat < xs.length := by omega
  have e : xs[r.toNat]? = some xs[r.toNat] := List.getElem?_eq_getElem h2
  have e2 := atI_nat e
  rw [Int.toNat_of_nonneg h0] at e2
  exact ⟨_, e2, List.getElem_mem h2⟩
theorem at_inA {xs : List Nat} {r : Int} (h0 : 0 ≤ r) (h1 : r < xs.length) : ∃ v, atI xs r = some v ∧ v ∈ xs := by
  have h2 : r.toNat < xs.length := by omega
  have e : xs[r.toNat]? = some xs[r.toNat] := List.getElem?_eq_getElem h2
  have e2 := atI_nat e
  rw [Int.toNat_of_nonneg h0] at e2
  exact ⟨_, e2, List.getElem_mem h2⟩
theorem cut_strs (ns : List Str) (lo hi : Option Int) : ∃ ms : List Str, cutV (ns.map V.str) lo hi = ms.map V.str ∧ ms.length ≤ ns.length ∧ ∀ y ∈ ms, y ∈ ns :=
  ⟨(ns.drop (HT.sIx ns.length 0 lo)).take (HT.sIx ns.length ns.length hi - HT.sIx ns.length 0 lo), by
    unfold cutV
    rw [List.length_map, ← List.map_drop, ← List.map_take], by
    rw [List.length_take, List.length_drop]
    omega, fun y h => List.mem_of_mem_drop (List.mem_of_mem_take h)⟩
/-- the promise of the deal that is made of the script -/
def sp_deal (K : PySem.W.Frag) : Sp := fun vs H Q _ => ∃ (a : Addr) (ns : List Int) (b : Int), vs = [.ref a, .int b] ∧ SqL K H a (ns.map V.int) ∧ ns.length ≤ 63 ∧ 0 ≤ b ∧ b ≤ 63 ∧
  ∀ (d l : Addr) (H' : Hp), Ex H H' → H d = none → H l = none → IsDeal H' d l → Q (.ref d) H'
/-- the promise of a draw: some number below many -/
def sp_draw : Sp := fun vs H Q _ => ∃ (d l : Addr) (m : Int), vs = [.ref d, .int m] ∧ IsDeal H d l ∧ 0 < m ∧ m < 1073741824 ∧
  ∀ (r : Int) (H' : Hp), 0 ≤ r → r < m → IsDeal H' d l → Kp d l H H' → Q (.int r) H'
end CB

set_option Elab.async false
set_option linter.all false
set_option maxRecDepth 100000
set_option maxHeartbeats 2000000
namespace CB
open PySem PySem.Spec PyProof.Rows L2

/-! ### defs that are promised where no repr is under way (A.guards = some []) -/
structure FnG (P : Program) (w : World) (K : PySem.W.Frag) (mg : Str → Option Value) (base : Heap) (k : Nat) (f : Addr) (fd : FuncData) (ps : List Str) (sp : Sp) : Prop where
  len : ∀ vs H Q E, sp vs H Q E → vs.length = ps.length
  run : ∀ (A : Around) (outer : List Env) (s : Shared) (H : Hp) (args : Args) (us : List Value) (vs : List V) (Q : VK) (E : XK), A.guards = some [] → Room k A → Env0 P w K mg base A outer s H →
    BindsTo s fd args (ps.zip us) → Vals vs us → sp vs H Q E → codeAny (model P w) A (.call (.ref f) args) (CR CX0 outer P w H s Q E) s
section
variable {P : Program} {w : World} {K : PySem.W.Frag} {mg : Str → Option Value} {base : Heap}
theorem okG {x qual : Str} {st : Stmt} {f : Addr} {fd : FuncData} {N ps : List Str} {k : Nat} {sp : Sp} (F : Fun K x qual st f fd) (S : FnScope N ps (defScope st)) (len : ∀ vs H Q E, sp vs H Q E → vs.length = ps.length)
    (hbody : ∀ (cdv : Value) (A : Around) (outer : List Env) (s : Shared) (H : Hp) (vs : List V) (Q : VK) (E : XK), (A.deeper (envOfC qual (defScope st) s.heap.objs.size f cdv)).guards = some [] → Room k (A.deeper (envOfC qual (defScope st) s.heap.objs.size f cdv)) → sp vs H Q E →
      ∃ t, PSs (cxOf CX0 P w K mg base N qual (defScope st) f cdv A outer s H E).nox (defBody st) t ∧ t { nx := fun _ H' => Q .non H', rt := Q } (start N vs) H) : FnG P w K mg base (k + 1) f fd ps sp := by
  obtain ⟨oc, od, kV, doc, pm, an, cdv, ct, osl, rfl, lk, hcd⟩ := F.ex
  refine ⟨len, fun A outer s H args us vs Q E hg hr e0 hb r hsp => ?_⟩
  have keepBase : ∀ b o, base.get? b = some o → s.heap.get? b = some o := fun b o e => (e0.bs b o e).1
  have hkinds : ∀ y ∈ ps.zip us, (defScope st).names.lookup y.1 = some .local ∨ ((defScope st).names.lookup y.1 = some .cell ∧ ((cellsFrom (s.heap.objs.size + 1) (defScope st).names []).lookup y.1).isSome = true) := by
    rintro ⟨n, v⟩ hy
    exact (S.par n (List.of_mem_zip hy).1).elim .inl fun q => .inr ⟨q, PySem.W.cellsFrom_some _ _ _ (.inl q)⟩
  have KX := e0.mod.kin.keeps keepBase
  refine codeAny_call_function hr.depth (KX _ _ lk) rfl S.co S.gen rfl (PySem.W.codeRec_of KX hcd) (hb _ _ _ _ (wpAny_newFunctionEnv_cells S.kind hkinds ?_))
  rintro env rfl s1 x
  obtain ⟨t, ht, hq⟩ := hbody cdv A outer s H vs Q E hg (hr.deeper _) hsp
  have I0 := inv_start (CX := CX0) (E := E) S hr.hd e0 (len _ _ _ _ hsp) r x
  refine ⟨(e0.mod.nolimit.keeps keepBase).keeps x.toInCall.keep, codeAny_func (wpAny_mono (ht.nox.run [] s1 (start N vs) H _ I0 hq) (fun fl s' hs => ?_) fun e s' hs => hs)⟩
  cases fl with
  | ret u =>
    obtain ⟨v, σ', H', J, rv, q⟩ := hs
    exact ⟨v, H', J.os, J.bare, J.base, J.hok, rv, q⟩
  | next =>
    obtain ⟨σ', H', J, q⟩ := hs
    exact ⟨V.non, H', J.os, J.bare, J.base, J.hok, rfl, q⟩
  | brk => exact hs.elim fun _ h => h.elim fun _ h => (show False from h.2).elim
  | cont => exact hs.elim fun _ h => h.elim fun _ h => (show False from h.2).elim
end
section
variable {X : Cx} {k : Nat} {f : Addr} {fd : FuncData} {ps : List Str} {sp : Sp} {x : Str} {p pos : Pos} {e : Expr} {es : List Expr} {t : TA} {E : XK}
theorem pe_callG (F : FnG X.prog X.w X.K X.mg X.base k f fd ps sp) (hgd : X.A.guards = some []) (hr : Room k X.A) (hg : Gl X x) (hm : X.mg x = some (.ref f)) (hk : PySem.W.keepIn X.K (.ref f) = true) (hb : Binds X.K fd ps [])
    (ha : PA X (e :: es) t) (hdb : (x == ("__debug__" : Str)) = false := by decide) (he : starEach (e :: es) X.env = (false, eval e X.env) :: starEach es X.env := by rfl) (hpl : (backTo pos (starEach es X.env)).any (·.1) = false := by rfl) :
    PE X (.Call (.Name x p) (e :: es) [] pos) (tCall sp [] E t) := by
  refine ⟨fun pins s σ H Q I h => wpAny_Call_Name_kw (ld_glob I hg hm (PySem.W.callWith_K (h₀ := X.base) I.ok.mod.kin hk (thn (ha.run pos pins s σ H _ I h) fun us s1 hus => ?_) he hpl) hdb)⟩
  obtain ⟨vs, H1, I1, r, q⟩ := hus
  refine ⟨I1.kIn, ?_⟩
  have r2 : Vals (vs ++ []) us := by rw [List.append_nil]; exact r
  have hl : (us ++ []).length = ps.length := by rw [List.append_nil, ← r2.length]; exact F.len _ _ _ _ q
  have bnd := hb s1 us I1.kIn hl
  rw [List.append_nil] at bnd
  refine wpAny_call (codeAny_mono (F.run X.A X.stack s1 H1 ⟨us, []⟩ us (vs ++ []) Q E hgd hr I1.env0 bnd r2 q) fun r s' hq => ?_)
  cases r with
  | error e => exact False.elim hq
  | ok fl =>
    cases fl with
    | ret u => exact I1.after hq
    | next => exact False.elim hq
    | brk => exact False.elim hq
    | cont => exact False.elim hq
end
/-! ### the law's own call, where no repr is under way -/
theorem lawG {P : Program} {w : World} {K : PySem.W.Frag} {mg mb : Str → Option Value} {k : Nat} {fa a : Addr} {fd : FuncData} {x : Str} {sp : Sp} {s1 : Shared} {vs : List Value} {ns : List Int}
    (KX : K.In s1.heap) (hns : s1.heap.Ns mainGlobals mg) (hb : s1.heap.Ns builtinsNs mb) (hbb : ∀ x : Str, x ≠ "__name__" → mb x = bootBuiltins x) (hlim : s1.heap.NoLimit) (hg : s1.gens = #[])
    (ha : s1.heap.get? a = some { cls := .type "list", data := .seq vs.toArray }) (hi : IntsAre vs ns) (hl : ns.length ≤ sizeLine) (hr : Room k callerA)
    (F : ∀ base : Heap, K.In base → base.Ns mainGlobals mg → FnG P w K mg base k fa fd [x] sp) (hbind : ∀ (s : Shared) (u : Value), BindsTo s fd ⟨[u], []⟩ [(x, u)])
    (hsp : ∀ H : Hp, SqL K H a (ns.map V.int) → sp [.ref a] H (fun v _ => v = .bl true) fun _ _ _ => False) :
    codeAny (model P w) callerA (.call (.ref fa) ⟨[.ref a], []⟩) (fun r s' => r = .ok (.ret (.bool true)) ∧ OldK s1.heap s'.heap ∧ s'.os = s1.os ∧ AllBare s'.gens) s1 := by
  have rel := vals_ints hi
  -- H tracks nothing, or the script alone, locked
  suffices go : ∀ H : Hp, (∀ b u, H b = some u → b = a ∧ K.lookup a = none ∧ ∃ o xs, u = .frz o (.lst xs)) → SqL K H a (ns.map V.int) → HOk P w H s1.heap →
      codeAny (model P w) callerA (.call (.ref fa) ⟨[.ref a], []⟩) (fun r s' => r = .ok (.ret (.bool true)) ∧ OldK s1.heap s'.heap ∧ s'.os = s1.os ∧ AllBare s'.gens) s1 by
    cases hk : K.lookup a with
    | none =>
      refine go (upd (fun _ => none) a (.frz { cls := .type "list", data := .seq vs.toArray } (.lst (ns.map V.int)))) (fun b u e => ?_) (.inl (.inr ⟨_, upd_same⟩)) (fun b u e => ?_)
      · by_cases h : b = a
        · subst h
          rw [upd_same] at e
          cases e
          exact ⟨rfl, hk, _, _, rfl⟩
        · rw [upd_ne h] at e
          cases e
      · by_cases h : b = a
        · subst h
          rw [upd_same] at e
          cases e
          exact ⟨ha, by rw [List.length_map]; exact hl, vs, _, rel, ha⟩
        · rw [upd_ne h] at e
          cases e
    | some o =>
      have e := KX a o hk
      rw [ha] at e
      cases e
      exact go (fun _ => none) (fun b u e => by cases e) (.inr ⟨_, vs.toArray, _, hk, rfl, rfl, rfl, by rw [List.size_toArray, hi.length]; exact hl, by simpa using rel⟩) (fun b u e => by cases e)
  intro H hH hS hok
  have apart : ∀ {b : Addr} {o : Obj}, s1.heap.get? b = some o → (∃ es ep, o.data = .dict es ep) → H b = none := fun {b o} e hd => by
    cases q : H b with
    | none => rfl
    | some u =>
      obtain ⟨rfl, _⟩ := hH b u q
      rw [ha] at e
      cases e
      obtain ⟨es, ep, z⟩ := hd
      cases z
  have ns_base : ∀ {b : Addr} {m : Str → Option Value}, s1.heap.Ns b m → (hidT s1.heap H).Ns b m := fun {b m} h => by
    obtain ⟨o, es, ep, e, d, r⟩ := h
    exact ⟨o, es, ep, hidT_get e (apart e ⟨es, ep, d⟩), d, r⟩
  have kin : K.In (hidT s1.heap H) := fun b o e => hidT_get (KX b o e) (by
    cases q : H b with
    | none => rfl
    | some u =>
      obtain ⟨rfl, h2, _⟩ := hH b u q
      rw [h2] at e
      cases e)
  have limit : (hidT s1.heap H).NoLimit := by
    obtain ⟨mc, h1, h2⟩ := hlim
    exact ⟨mc, ns_base h1, h2⟩
  have e0 : Env0 P w K mg (hidT s1.heap H) callerA [] s1 H :=
    ⟨rfl, ⟨kin, ns_base hns, ⟨mb, ns_base hb, hbb⟩, limit⟩, fun b o e => of_hidT e, Nat.le_of_eq (hidT_size _ _), trivial, fun b hb => (List.not_mem_nil hb).elim, hok, .of_eq hg⟩
  refine codeAny_mono ((F _ kin (ns_base hns)).run callerA [] s1 H ⟨[.ref a], []⟩ [.ref a] [.ref a] _ _ rfl hr e0 (hbind s1 (.ref a)) (.cons rfl .nil) (hsp H hS)) fun r s' h => ?_
  cases r with
  | error e => exact False.elim h
  | ok fl =>
    cases fl with
    | ret u =>
      obtain ⟨v, H', os, bare, un, hok', ru, rfl⟩ := h
      obtain rfl : u = Value.bool true := ru
      refine ⟨rfl, OldK.of_keep fun b o e => ?_, os, bare⟩
      cases q : H b with
      | none => exact un.keep b o e q (fun z => (List.not_mem_nil z).elim) (by simp)
      | some u =>
        obtain ⟨rfl, _, ob, xs, rfl⟩ := hH b u q
        have h1 := (hok b _ q).1
        rw [e] at h1
        cases h1
        exact (hok' b _ (un.frzs b _ _ q)).1
    | next => exact False.elim h
    | brk => exact False.elim h
    | cont => exact False.elim h
/-- the goal that k_head leaves, from the law's promise -/
theorem walkG {l : PySem.W.OpenLaw} {n k : Nat} {q : Program} {loose : List Str} {XP : (Str → Option Value) → Heap → Prop} {YP : World → Heap → Prop} {d : DefRec} {K : Params → PySem.W.Frag} {sp : World → Sp} {x : Str}
    (hn : l.most = some n) (hn2 : n ≤ sizeLine) (hdf : d.params.defaults = []) (hr : Room k callerA) (hY : ∀ (w : World) (h : Heap), YP w h → (K w.params).In h)
    (F : ∀ (w : World) (mg : Str → Option Value) (fa : Addr) (h : Heap), (K w.params).In h → h.Ns mainGlobals mg → mg d.name = some (.ref fa) →
      ∃ fd : FuncData, (∀ (s : Shared) (u : Value), BindsTo s fd ⟨[u], []⟩ [(x, u)]) ∧ ∀ base : Heap, (K w.params).In base → base.Ns mainGlobals mg → FnG l.prog w (K w.params) mg base k fa fd [x] (sp w))
    (hsp : ∀ (w : World) (H : Hp) (a : Addr) (ns : List Int), ns.length ≤ n → SqL (K w.params) H a (ns.map V.int) → sp w [.ref a] H (fun v _ => v = .bl true) fun _ _ _ => False) :
    PySem.W.WalkO q loose XP YP l.row.toRowW d [] (fun f vs => PySem.call f vs) :=
  Att.attach_call hn hdf fun w s0 s1 mg mb fa o pm cd doc a vs ns G Y ho hd hcd hmg hobj hints hlen hg => by
    have KX := hY w _ Y
    obtain ⟨fd, hb, hF⟩ := F w mg fa _ KX G.T.g hmg
    exact lawG KX G.T.g G.T.b G.T.builtins G.T.nolimit hg hobj hints (Nat.le_trans hlen hn2) hr hF hb fun H hS => hsp w H a ns hlen hS
/-! ### repr -/
section
variable {X : Cx}
/-- repr(x), x a list or a tuple: what is shown -/
theorem call_reprD {K : PySem.W.Frag} (hgd : X.A.guards = some []) (hu : X.A.units + 66 < cLine) (hK : X.K = K := by rfl) : CallR X (.builtin "repr") (fun xs H Q => ∃ v d, xs = [v] ∧ Dp K H v d ∧ (∃ a, v = .ref a) ∧ SeqAt.shaped d = true ∧ d.showable = true ∧ d.shown.length ≤ sizeLine ∧ Q (.str d.shown) H) := by
  subst hK
  intro pins s σ H xs us Q I r h
  obtain ⟨v, d, rfl, hd, ⟨a, rfl⟩, sd, sw, hz, q⟩ := h
  obtain ⟨u, rfl, ru⟩ := vals1 r
  obtain rfl : u = Value.ref a := ru
  obtain ⟨as, rd⟩ := Dp.reads I d _ _ hd rfl
  have dp := SeqAt.depth_of_shaped sd
  refine repr_of_reads' rd sw (PyData.noDict_hsm (PyData.hasDict_of_canLay d (SeqAt.canLay_of_shaped sd))) hgd (by omega) (fun _ _ e => e) (fun h' u tk hk => ?_) hz
  exact ⟨.str d.shown, H, I.kept (t' := tk) hk, ⟨u, rfl⟩, q⟩
/-! ### sum(a tuple of ints) -/
theorem cr_sumT {K : PySem.W.Frag} (hc : X.calm = true) (hK : X.K = K := by rfl) : CallR X (.builtin "sum") (fun vs H Q => ∃ (a : Addr) (ns : List Int), vs = [V.ref a] ∧ SqT K H a (ns.map V.int) ∧ Q (.int ns.sum) H) := by
  subst hK
  intro pins s σ H vs us Q I r h
  obtain ⟨a, ns, rfl, hs, q⟩ := h
  obtain ⟨its, rv, hl, _⟩ := I.tuple hs
  rw [Vals.ref1 r]
  have hi := rv.ints
  obtain ⟨xs, e⟩ := hi.allInts.items
  have hn : numsOf (intItems xs).toList = ns := by rw [← e]; exact hi.numsOf
  rw [nums_intItems] at hn
  rw [e] at hl
  have hT : s.heap.IsTuple a (intItems xs) := hl
  have hlt : a < s.heap.objs.size := by obtain ⟨_, e, _⟩ := hT; exact Heap.lt_size e
  refine call_sum_walkG (wpAny_pyIter_tuple hT ⟨_, [_, a], [_], _, _, _, numAt xs, rfl, Walks.tuple (A := X.A.in1) (I.ok.hd hc) _ a (Nat.ne_of_lt hlt) (intItems xs), ⟨⟨_, Heap.get?_push_size _ rfl, rfl, rfl⟩, hT.push _⟩, fun b hb => ?_, (fun _ _ => intItems_at), fun h' tk t' hk => ?_⟩)
  · show b < (s.heap.push _).objs.size
    rw [Heap.size_push]
    rcases List.mem_cons.mp hb with rfl | hb
    · exact Nat.lt_succ_self _
    · rw [List.mem_singleton.mp hb]
      exact Nat.lt_succ_of_lt hlt
  · have e2 : preSum (numAt xs) (intItems xs).size = ns.sum := by
      have e3 : (intItems xs).size = xs.size := by simp [intItems]
      rw [e3, preSum_eq, List.take_of_length_le (by simp), hn]
    rw [e2]
    refine ⟨.int _, H, I.kept (t' := tk) fun b o eb => hk b o (fun hm => ?_) (Heap.get?_push_of_some _ eb), ⟨_, rfl⟩, q⟩
    rw [List.mem_singleton.mp hm] at eb
    exact absurd (Heap.lt_size eb) (Nat.lt_irrefl _)
/-! ### sorted(a list of data) -/
abbrev dSort (ds : List PyData) : List PyData := ds.mergeSort (PySem.W.dataLe false id)
theorem DpAll.pairs {K : PySem.W.Frag} {H : Hp} : ∀ {xs : List V} {ds : List PyData}, DpAll K H xs ds → ∀ p ∈ xs.zip ds, Dp K H p.1 p.2
  | _, _, .nil, p, hp => by cases hp
  | _, _, .cons h hs, p, hp => by
    rcases List.mem_cons.mp hp with rfl | hp
    · exact h
    · exact DpAll.pairs hs p hp
theorem dpAll_of {K : PySem.W.Frag} {H : Hp} : ∀ (l : List (V × PyData)), (∀ p ∈ l, Dp K H p.1 p.2) → DpAll K H (l.map Prod.fst) (l.map Prod.snd)
  | [], _ => .nil
  | p :: r, h => .cons (h p List.mem_cons_self) (dpAll_of r fun q hq => h q (List.mem_cons_of_mem _ hq))
theorem each_zip {H : Hp} {pins : List (Addr × Obj)} {σ : L2.St} {s : Shared} (I : Inv X pins σ H s) : ∀ {xs : List V} {us : List Value} {ds : List PyData}, Vals xs us → DpAll X.K H xs ds →
    PySem.W.EachIs (fun (u : Value) (p : V × PyData) => RelV p.1 u) us (xs.zip ds) ∧ PySem.W.EachIs (fun (u : Value) (p : V × PyData) => ∃ as, Reads s.heap u p.2 as) us (xs.zip ds)
  | _, _, _, .nil, .nil => ⟨.nil, .nil⟩
  | _, _, _, .cons r rs, .cons h hs => ⟨.cons r (each_zip I rs hs).1, .cons (Dp.reads I _ _ _ h r) (each_zip I rs hs).2⟩
theorem vals_each : ∀ {us : List Value} {l : List (V × PyData)}, PySem.W.EachIs (fun (u : Value) (p : V × PyData) => RelV p.1 u) us l → Vals (l.map Prod.fst) us
  | _, _, .nil => .nil
  | _, _, .cons r rs => .cons r (vals_each rs)
theorem zip_snd {xs : List V} {ds : List PyData} (h : xs.length = ds.length) : (xs.zip ds).map Prod.snd = ds := List.map_snd_zip (by omega)
theorem cr_sortD {K : PySem.W.Frag} (hu : X.A.units + 64 < cLine) (hK : X.K = K := by rfl) : CallR X (.builtin "sorted") (fun vs H Q => ∃ (a : Addr) (xs : List V) (ds : List PyData), vs = [V.ref a] ∧ SqL K H a xs ∧ DpAll K H xs ds ∧ PySem.W.AllAlike ds ∧ PySem.W.Sortable ds ∧ (∀ d ∈ ds, d.depth ≤ 60) ∧
    ∀ ys p, H p = none → (∀ F, DpAll K F xs ds → DpAll K F ys (dSort ds)) → (∀ y ∈ ys, y ∈ xs) → Q (.ref p) (upd H p (.lst ys))) := by
  subst hK
  intro pins s σ H vs us Q I r h
  obtain ⟨a, xs, ds, rfl, hs, hd, hal, hsr, hdp, q⟩ := h
  obtain ⟨its, rv, hl, hz⟩ := I.list hs
  rw [Vals.ref1 r]
  have hlen := DpAll.length hd
  obtain ⟨e1, e2⟩ := each_zip I rv hd
  have esnd := zip_snd hlen
  refine PySem.W.sorted_data (enc := Prod.snd) hl.isList e1 e2 (by rw [esnd]; exact hal) (by rw [esnd]; exact hsr) (by rw [List.length_zip]; omega) (fun p hp => ?_) fun out hout he => ?_
  · have := hdp p.2 (by rw [← esnd]; exact List.mem_map_of_mem hp)
    omega
  · obtain ⟨e, hat⟩ := sortedAll_at s.heap its out.toArray
    have hmem : ∀ p ∈ (xs.zip ds).mergeSort (PySem.W.dataLe false Prod.snd), p ∈ xs.zip ds := fun p hp => (List.mergeSort_perm _ _).mem_iff.mp hp
    have hys : ∀ F, DpAll X.K F xs ds → DpAll X.K F (((xs.zip ds).mergeSort (PySem.W.dataLe false Prod.snd)).map Prod.fst) (dSort ds) := fun F hF => by
      have h1 := dpAll_of (K := X.K) (H := F) ((xs.zip ds).mergeSort (PySem.W.dataLe false Prod.snd)) fun p hp => DpAll.pairs hF p (hmem p hp)
      have h2 : ((xs.zip ds).mergeSort (PySem.W.dataLe false Prod.snd)).map Prod.snd = dSort ds := by
        rw [PySem.W.sort_maps (r := PySem.W.dataLe false Prod.snd) (s := PySem.W.dataLe false id) Prod.snd (fun _ _ _ _ => rfl), esnd]
      rw [h2] at h1
      exact h1
    have hv := vals_each he
    refine ⟨.ref (s.heap.objs.size + 1), upd H (s.heap.objs.size + 1) (.lst _), I.laid (t' := s.toks) (fun b u eb => sortedAll_old eb) (by omega) (show ObjOk X.prog X.w _ _ _ (.lst _) from ⟨?_, out, e, hv, ?_⟩), rfl, q _ _ (I.hok.fresh (by omega)) hys fun y hy => ?_⟩
    · rw [List.length_map, List.length_mergeSort, List.length_zip]
      omega
    · exact hat
    · obtain ⟨p, hp, rfl⟩ := List.mem_map.mp hy
      exact (List.of_mem_zip (hmem p hp)).1
end
end CB

set_option Elab.async false
set_option linter.all false
set_option maxRecDepth 100000
set_option maxHeartbeats 2000000
namespace CB
open PySem PySem.Spec PyProof.Rows L2

/-! ### rows as data: they may be compared and shown -/
abbrev Sml (x : Int) : Prop := x.natAbs.log2 < 1920
theorem sml_of {x : Int} {k : Nat} (h : x.natAbs < 2 ^ k) (hk : 0 < k) (h2 : k ≤ 1920) : Sml x := Nat.lt_of_lt_of_le (PySem.Flt.log2_lt_of hk h) h2
theorem canLay_tis : ∀ r : List (List Int), PyData.canLayAll0 (r.map ti) = true
  | [] => rfl
  | p :: r => by
    show (PyData.canLayAll0 (p.map PyData.int) && PyData.canLayAll0 (r.map ti)) = true
    rw [canLay_ints, canLay_tis r]
    rfl
theorem depth_ints' (p : List Int) : PyData.depthAll (p.map PyData.int) = 0 := PySem.W.depth_ints p
theorem depth_tis : ∀ r : List (List Int), PyData.depthAll (r.map ti) ≤ 1
  | [] => Nat.zero_le _
  | p :: r => by
    show max (PyData.depthAll (p.map PyData.int) + 1) (PyData.depthAll (r.map ti)) ≤ 1
    rw [depth_ints']
    have := depth_tis r
    omega
theorem ti_shaped (p : List Int) : SeqAt.shaped (ti p) = true := by
  unfold SeqAt.shaped
  rw [Bool.and_eq_true, decide_eq_true_eq]
  refine ⟨canLay_ints p, ?_⟩
  show PyData.depthAll (p.map PyData.int) + 1 ≤ 64
  rw [depth_ints']
  decide
theorem li_shaped (p : List Int) : SeqAt.shaped (li p) = true := by
  unfold SeqAt.shaped
  rw [Bool.and_eq_true, decide_eq_true_eq]
  refine ⟨canLay_ints p, ?_⟩
  show PyData.depthAll (p.map PyData.int) + 1 ≤ 64
  rw [depth_ints']
  decide
theorem lti_shaped (r : List (List Int)) : SeqAt.shaped (lti r) = true := by
  unfold SeqAt.shaped
  rw [Bool.and_eq_true, decide_eq_true_eq]
  refine ⟨canLay_tis r, ?_⟩
  show PyData.depthAll (r.map ti) + 1 ≤ 64
  have := depth_tis r
  omega
theorem tti_shaped (r : List (List Int)) : SeqAt.shaped (tti r) = true := by
  unfold SeqAt.shaped
  rw [Bool.and_eq_true, decide_eq_true_eq]
  refine ⟨canLay_tis r, ?_⟩
  show PyData.depthAll (r.map ti) + 1 ≤ 64
  have := depth_tis r
  omega
theorem ints_showable (p : List Int) (h : ∀ x ∈ p, Sml x) : PyData.showableAll (p.map PyData.int) = true := PyData.showableAll_ints p h
theorem ti_showable {p : List Int} (h : ∀ x ∈ p, Sml x) : (ti p).showable = true := ints_showable p h
theorem li_showable {p : List Int} (h : ∀ x ∈ p, Sml x) : (li p).showable = true := ints_showable p h
theorem tis_showable (r : List (List Int)) (h : ∀ p ∈ r, ∀ x ∈ p, Sml x) : PyData.showableAll (r.map ti) = true := showableAll_of fun d hd => by
  obtain ⟨p, hp, rfl⟩ := List.mem_map.mp hd
  exact ti_showable (h p hp)
theorem lti_showable {r : List (List Int)} (h : ∀ p ∈ r, ∀ x ∈ p, Sml x) : (lti r).showable = true := tis_showable r h
theorem tti_showable {r : List (List Int)} (h : ∀ p ∈ r, ∀ x ∈ p, Sml x) : (tti r).showable = true := tis_showable r h
theorem int_shown {x : Int} (h : Sml x) : (PyData.shown (.int x)).length ≤ 1921 := PyProof.Rows.int_text_len_1921 h
theorem ints_shown : ∀ (p : List Int), (∀ x ∈ p, Sml x) → ((PyData.shownAll (p.map PyData.int)).map (·.length)).sum ≤ 1921 * p.length
  | [], _ => Nat.zero_le _
  | x :: p, h => by
    have h1 := int_shown (h x List.mem_cons_self)
    have h2 := ints_shown p fun y hy => h y (List.mem_cons_of_mem _ hy)
    show (PyData.shown (.int x)).length + ((PyData.shownAll (p.map PyData.int)).map (·.length)).sum ≤ 1921 * (p.length + 1)
    omega
theorem ti_shown {p : List Int} (h : ∀ x ∈ p, Sml x) : (ti p).shown.length ≤ 1923 * p.length + 3 := by
  have h1 := tupleText_len_le (PyData.shownAll (p.map PyData.int))
  have h2 := ints_shown p h
  have h3 : (PyData.shownAll (p.map PyData.int)).length = p.length := by rw [PyData.shownAll_length, List.length_map]
  show (tupleText (PyData.shownAll (p.map PyData.int))).length ≤ _
  omega
theorem li_shown {p : List Int} (h : ∀ x ∈ p, Sml x) : (li p).shown.length ≤ 1923 * p.length + 3 := by
  have h1 := listText_len_le (PyData.shownAll (p.map PyData.int))
  have h2 := ints_shown p h
  have h3 : (PyData.shownAll (p.map PyData.int)).length = p.length := by rw [PyData.shownAll_length, List.length_map]
  show (listText (PyData.shownAll (p.map PyData.int))).length ≤ _
  omega
theorem tis_shown {m : Nat} : ∀ (r : List (List Int)), (∀ p ∈ r, p.length ≤ m ∧ ∀ x ∈ p, Sml x) → ((PyData.shownAll (r.map ti)).map (·.length)).sum ≤ (1923 * m + 3) * r.length
  | [], _ => Nat.zero_le _
  | p :: r, h => by
    obtain ⟨l1, l2⟩ := h p List.mem_cons_self
    have h1 := ti_shown l2
    have h2 := tis_shown r fun y hy => h y (List.mem_cons_of_mem _ hy)
    have h3 : 1923 * p.length ≤ 1923 * m := Nat.mul_le_mul_left _ l1
    show (ti p).shown.length + ((PyData.shownAll (r.map ti)).map (·.length)).sum ≤ (1923 * m + 3) * (r.length + 1)
    rw [Nat.mul_succ]
    omega
theorem lti_shown {m : Nat} {r : List (List Int)} (h : ∀ p ∈ r, p.length ≤ m ∧ ∀ x ∈ p, Sml x) : (lti r).shown.length ≤ (1923 * m + 5) * r.length + 3 := by
  have h1 := listText_len_le (PyData.shownAll (r.map ti))
  have h2 := tis_shown r h
  have h3 : (PyData.shownAll (r.map ti)).length = r.length := by rw [PyData.shownAll_length, List.length_map]
  have h4 : (1923 * m + 5) * r.length = (1923 * m + 3) * r.length + 2 * r.length := by rw [← Nat.add_mul]
  show (listText (PyData.shownAll (r.map ti))).length ≤ _
  omega
theorem tti_shown {m : Nat} {r : List (List Int)} (h : ∀ p ∈ r, p.length ≤ m ∧ ∀ x ∈ p, Sml x) : (tti r).shown.length ≤ (1923 * m + 5) * r.length + 3 := by
  have h1 := tupleText_len_le (PyData.shownAll (r.map ti))
  have h2 := tis_shown r h
  have h3 : (PyData.shownAll (r.map ti)).length = r.length := by rw [PyData.shownAll_length, List.length_map]
  have h4 : (1923 * m + 5) * r.length = (1923 * m + 3) * r.length + 2 * r.length := by rw [← Nat.add_mul]
  show (tupleText (PyData.shownAll (r.map ti))).length ≤ _
  omega
/-! ### products -/
/-- a product with one box more, to a degree -/
def ext (d : Int) (p : List Int) : List (List Int) := (List.range (d - p.sum + 1).toNat).map fun (o : Nat) => p ++ [(o : Int)]
def raw (d : Int) : Nat → List (List Int)
  | 0 => [[]]
  | n + 1 => (raw d n).flatMap (ext d)
/-- a product beside its degree -/
def encP (p : List Int) : PyData := .tuple [.int p.sum, ti p]
def prods (n : Nat) (d : Int) : List (List Int) := (raw d n).mergeSort (PySem.W.dataLe false encP)
theorem ext_mem {d : Int} {p q : List Int} (h : q ∈ ext d p) : ∃ o : Nat, q = p ++ [(o : Int)] ∧ (o : Int) ≤ d - p.sum := by
  obtain ⟨o, ho, rfl⟩ := List.mem_map.mp h
  rw [List.mem_range] at ho
  exact ⟨o, rfl, by omega⟩
theorem sum_snoc (p : List Int) (o : Int) : (p ++ [o]).sum = p.sum + o := by
  rw [List.sum_append]
  simp
theorem raw_ok {d : Int} (hd : 0 ≤ d) : ∀ (n : Nat) (p : List Int), p ∈ raw d n → p.length = n ∧ 0 ≤ p.sum ∧ p.sum ≤ d ∧ ∀ x ∈ p, 0 ≤ x
  | 0, p, h => by
    rw [List.mem_singleton.mp (show p ∈ [[]] from h)]
    exact ⟨rfl, by decide, hd, fun x hx => by cases hx⟩
  | n + 1, p, h => by
    obtain ⟨q, hq, hp⟩ := List.mem_flatMap.mp h
    obtain ⟨h1, h2, h3, h4⟩ := raw_ok hd n q hq
    obtain ⟨o, rfl, ho⟩ := ext_mem hp
    refine ⟨by rw [List.length_append, h1]; rfl, by rw [sum_snoc]; omega, by rw [sum_snoc]; omega, fun x hx => ?_⟩
    rcases List.mem_append.mp hx with hx | hx
    · exact h4 x hx
    · rw [List.mem_singleton.mp hx]; omega
theorem ext_len {d : Int} {p : List Int} (h0 : 0 ≤ p.sum) (hd : d ≤ 6) : (ext d p).length ≤ 7 := by
  unfold ext
  rw [List.length_map, List.length_range]
  omega
theorem flat_len {d : Int} : ∀ (l : List (List Int)), (∀ p ∈ l, 0 ≤ p.sum) → d ≤ 6 → (l.flatMap (ext d)).length ≤ 7 * l.length
  | [], _, _ => by simp
  | p :: r, h, hd => by
    rw [List.flatMap_cons, List.length_append, List.length_cons]
    have h1 := ext_len (h p List.mem_cons_self) hd
    have h2 := flat_len r (fun q hq => h q (List.mem_cons_of_mem _ hq)) hd
    omega
theorem raw_len {d : Int} (hd : 0 ≤ d) (hd6 : d ≤ 6) : ∀ n : Nat, (raw d n).length ≤ 7 ^ n
  | 0 => Nat.le_refl 1
  | n + 1 => by
    have h1 := flat_len (raw d n) (fun p hp => (raw_ok hd n p hp).2.1) hd6
    have h2 := raw_len hd hd6 n
    show ((raw d n).flatMap (ext d)).length ≤ 7 ^ n * 7
    omega
theorem raw_len6 {d : Int} (hd : 0 ≤ d) (hd6 : d ≤ 6) {n : Nat} (hn : n ≤ 6) : (raw d n).length ≤ 117649 :=
  Nat.le_trans (raw_len hd hd6 n) (Nat.le_trans (Nat.pow_le_pow_right (by decide) hn) (by decide))
theorem prods_len (n : Nat) (d : Int) : (prods n d).length = (raw d n).length := List.length_mergeSort _
theorem prods_mem {n : Nat} {d : Int} {p : List Int} : p ∈ prods n d ↔ p ∈ raw d n := (List.mergeSort_perm _ _).mem_iff
theorem prods_ok {d : Int} (hd : 0 ≤ d) {n : Nat} {p : List Int} (h : p ∈ prods n d) : p.length = n ∧ 0 ≤ p.sum ∧ p.sum ≤ d ∧ ∀ x ∈ p, 0 ≤ x := raw_ok hd n p (prods_mem.mp h)
theorem sort_enc (l : List (List Int)) : dSort (l.map encP) = (l.mergeSort (PySem.W.dataLe false encP)).map encP :=
  (PySem.W.sort_maps (r := PySem.W.dataLe false encP) (s := PySem.W.dataLe false id) encP (fun _ _ _ _ => rfl)).symm
theorem alike_ints' (xs ys : List Int) : PySem.W.alikeAll (xs.map PyData.int) (ys.map PyData.int) = true := PySem.W.alike_ints xs ys
theorem enc_alike (l : List (List Int)) : PySem.W.AllAlike (l.map encP) := PySem.W.AllAlike.of fun p q => by
  show (true && (PySem.W.alikeAll (p.map PyData.int) (q.map PyData.int) && true)) = true
  rw [alike_ints']
  rfl
theorem enc_sortable (l : List (List Int)) : PySem.W.Sortable (l.map encP) := PySem.W.Sortable.tuples fun p => ⟨_, _, rfl⟩
theorem enc_depth (l : List (List Int)) : ∀ d ∈ l.map encP, d.depth ≤ 60 := fun d hd => by
  obtain ⟨p, _, rfl⟩ := List.mem_map.mp hd
  show max 0 (max (PyData.depthAll (p.map PyData.int) + 1) 0) + 1 ≤ 60
  rw [PySem.W.depth_ints]
  decide
/-- how many products there are, as it is reckoned -/
def hm (d : Int) : Nat → Int
  | 0 => 1
  | k + 1 => (hm d k * (d + (1 + (k : Int)))).fdiv (1 + (k : Int))
def sp_how_many : Sp := fun vs H Q _ => ∃ (n : Nat) (d : Int), vs = [.int (n : Int), .int d] ∧ n ≤ 6 ∧ 0 ≤ d ∧ d ≤ 6 ∧ Q (.int (hm d n)) H
/-- the promise: a new list of tuples -/
def sp_products (K : PySem.W.Frag) : Sp := fun vs H Q _ => ∃ (n : Nat) (d : Int) (F : Hp), vs = [.int (n : Int), .int d] ∧ Ex F H ∧ n ≤ 6 ∧ 0 ≤ d ∧ d ≤ 6 ∧
  ∀ p xs F' H', H p = none → Gr NoS F H F' H' → F' p = none → H' p = some (.lst xs) → DpAll K F' xs ((prods n d).map ti) → Q (.ref p) H'
end CB

set_option Elab.async false
set_option linter.all false
set_option maxRecDepth 100000
set_option maxHeartbeats 2000000
namespace CB
open PySem PySem.Spec PyProof.Rows L2
/-- what a def of data hands back: a value that reads as d, the frozen part grown -/
def RetD (K : PySem.W.Frag) (F H : Hp) (Q : VK) (d : PyData) : Prop := ∀ v F' H', Gr NoS F H F' H' → Dp K F' v d → Q v H'
/-- tuple(a list of ours) -/
theorem RetD.tuple {K : PySem.W.Frag} {F H F1 H1 : Hp} {Q : VK} {xs : List V} {ds : List PyData} {l : Addr} (q : RetD K F H Q (.tuple ds)) (g : Gr NoS F H F1 H1) (hl : H1 l = some (.lst xs)) (hd : DpAll K F1 xs ds) :
    (∃ p ys, [V.ref l] = [.ref p] ∧ ((SqL K H1 p ys ∧ ∀ l, H1 l = none → Q (.ref l) (upd H1 l (.tup ys))) ∨ (SqT K H1 p ys ∧ Q (.ref p) H1))) :=
  ⟨l, xs, rfl, .inl ⟨SqL.of hl, fun t nt => q _ _ _ (g.new nt) (.tup (SqT.of upd_same) (hd.ex (Evl.Ex.new (sub_none g.sub nt))))⟩⟩
theorem sum_nonneg : ∀ {p : List Int}, (∀ x ∈ p, 0 ≤ x) → 0 ≤ p.sum
  | [], _ => by decide
  | y :: r, h => by
    rw [List.sum_cons]
    have h1 := h y List.mem_cons_self
    have h2 := sum_nonneg (p := r) fun z hz => h z (List.mem_cons_of_mem _ hz)
    omega
theorem le_sum : ∀ {p : List Int} {x : Int}, (∀ x ∈ p, 0 ≤ x) → x ∈ p → x ≤ p.sum
  | [], _, _, hx => by cases hx
  | y :: r, x, h, hx => by
    rw [List.sum_cons]
    have h1 := h y List.mem_cons_self
    have h2 := sum_nonneg (p := r) fun z hz => h z (List.mem_cons_of_mem _ hz)
    rcases List.mem_cons.mp hx with rfl | hx
    · omega
    · have := le_sum (p := r) (fun z hz => h z (List.mem_cons_of_mem _ hz)) hx
      omega
/-! ### boxes multiplied -/
/-- the boxes (first) taken as often (second) -/
def wL (l : List (Int × Int)) : Int := l.foldl (fun w q => w * q.1 ^ q.2.toNat) 1
theorem wL_snoc (l : List (Int × Int)) (q : Int × Int) : wL (l ++ [q]) = wL l * q.1 ^ q.2.toNat := by
  unfold wL
  rw [List.foldl_append]
  rfl
def rowL (n : Nat) (d : Int) (boxes : List Int) : List Int := (prods n d).map fun p => wL (boxes.zip p)
theorem zip_get {α β : Type} {xs : List α} {ys : List β} {i : Nat} {x : α} {y : β} (hx : xs[i]? = some x) (hy : ys[i]? = some y) : (xs.zip ys)[i]? = some (x, y) := by
  rw [List.getElem?_zip_eq_some]
  exact ⟨hx, hy⟩
theorem take_zip_snoc {α β : Type} {xs : List α} {ys : List β} {i : Nat} {x : α} {y : β} (hx : xs[i]? = some x) (hy : ys[i]? = some y) : (xs.zip ys).take (i + 1) = (xs.zip ys).take i ++ [(x, y)] := by
  rw [List.take_add_one, zip_get hx hy]
  rfl
theorem int_get {ns : List Int} {i : Nat} {v : V} (h : (ns.map V.int)[i]? = some v) : ∃ x, ns[i]? = some x ∧ v = .int x := by
  rw [List.getElem?_map] at h
  obtain ⟨x, e, rfl⟩ := Option.map_eq_some_iff.mp h
  exact ⟨x, e, rfl⟩
/-- the promise of boxes_row -/
def sp_boxes_row (K : PySem.W.Frag) : Sp := fun vs H Q _ => ∃ (n : Nat) (d : Int) (bs : List Int) (v : V) (F : Hp), vs = [.int (n : Int), .int d, v] ∧ Ex F H ∧ Dp K F v (ti bs) ∧ bs.length = n ∧ n ≤ 6 ∧ 0 ≤ d ∧ d ≤ 6 ∧ (∀ x ∈ bs, -1000000 ≤ x ∧ x ≤ 1000000) ∧ RetD K F H Q (ti (rowL n d bs))
/-- the promise of a def that tells a row of all numbers -/
def sp_map_row (K : PySem.W.Frag) : Sp := fun vs H Q _ => ∃ (v : V) (r : List (List Int)) (F : Hp), vs = [v] ∧ Ex F H ∧ Dp K F v (tti r) ∧ r.flatten.length ≤ 10000 ∧ RetD K F H Q (ti r.flatten)
def sp_row_map (K : PySem.W.Frag) : Sp := fun vs H Q _ => ∃ (v : V) (r : List (List Int)) (m : Nat) (F : Hp), vs = [.int (r.length : Int), v] ∧ Ex F H ∧ Dp K F v (ti r.flatten) ∧ 0 < r.length ∧ r.length ≤ 1000 ∧ m ≤ 1000 ∧ (∀ p ∈ r, p.length = m) ∧ RetD K F H Q (tti r)
theorem flat_len_eq {r : List (List Int)} {m : Nat} (h : ∀ p ∈ r, p.length = m) : r.flatten.length = r.length * m := by
  induction r with
  | nil => simp
  | cons p r ih =>
    rw [List.flatten_cons, List.length_append, h p List.mem_cons_self, ih fun q hq => h q (List.mem_cons_of_mem _ hq), List.length_cons, Nat.succ_mul]
    omega
theorem flat_cut {m : Nat} : ∀ {r : List (List Int)} {k : Nat} {p : List Int}, (∀ p ∈ r, p.length = m) → r[k]? = some p → (r.flatten.drop (k * m)).take m = p
  | [], _, _, _, h => by simp at h
  | q :: r, 0, p, h, e => by
    have e' : q = p := by simpa using e
    subst e'
    rw [Nat.zero_mul, List.drop_zero, List.flatten_cons, List.take_append_of_le_length (by rw [h q List.mem_cons_self]; exact Nat.le_refl _)]
    exact List.take_of_length_le (by rw [h q List.mem_cons_self]; exact Nat.le_refl _)
  | q :: r, k + 1, p, h, e => by
    have ih := flat_cut (r := r) (k := k) (fun q hq => h q (List.mem_cons_of_mem _ hq)) (by simpa using e)
    rw [List.flatten_cons, Nat.succ_mul, Nat.add_comm (k * m) m, ← List.drop_drop]
    have e2 : (q ++ r.flatten).drop m = r.flatten := by
      rw [← h q List.mem_cons_self]
      exact List.drop_left
    rw [e2]
    exact ih
theorem cut_nat (xs : List V) {a b : Nat} (h : b ≤ xs.length) : cutV xs (some (a : Int)) (some (b : Int)) = (xs.drop (min a xs.length)).take (b - min a xs.length) := by
  unfold cutV
  rw [HT.sIx_nat, HT.sIx_nat, Nat.min_eq_left h]
/-! ### the deal beside a frozen part -/
structure Wr (d l : Addr) (F H : Hp) : Prop where
  sub : Ex F H
  nd : F d = none
  nl : F l = none
  deal : IsDeal H d l
section
variable {d l p : Addr} {F H F' H' : Hp} {o : HO}
theorem Wr.draw (h : Wr d l F H) (D : IsDeal H' d l) (k : Kp d l H H') : Wr d l F H' := ⟨fun b o e => k b o (ne_of_none e h.nd) (ne_of_none e h.nl) (h.sub b o e), h.nd, h.nl, D⟩
theorem Wr.gr (h : Wr d l F H) (g : Gr NoS F H F' H') : Wr d l F' H' := by
  obtain ⟨s, n, ls, D⟩ := h.deal
  exact ⟨g.sub, g.nf d h.nd (by rw [D.hd]; exact fun z => by cases z), g.nf l h.nl (by rw [D.hl]; exact fun z => by cases z), h.deal.ex g.ex⟩
theorem Wr.new (h : Wr d l F H) (hp : H p = none) : Wr d l (upd F p o) (upd H p o) := h.gr ((Gr.refl h.sub).new hp)
theorem Wr.newm (h : Wr d l F H) (hp : H p = none) : Wr d l F (upd H p o) := h.gr ((Gr.refl h.sub).newm hp)
theorem Wr.mut (h : Wr d l F H) (hf : F p = none) (n1 : p ≠ d) (n2 : p ≠ l) : Wr d l F (upd H p o) :=
  ⟨fun b u e => by rw [upd_ne (ne_of_none e hf)]; exact h.sub b u e, h.nd, h.nl, h.deal.upd n1 n2⟩
theorem Wr.ne (h : Wr d l F H) (hp : H p = none) : p ≠ d ∧ p ≠ l := h.deal.nd hp
theorem Kp.none (k : Kp d l H H') (n1 : p ≠ d) (n2 : p ≠ l) (e : H' p = none) : H p = none := by
  cases q : H p with
  | none => rfl
  | some o => rw [k p o n1 n2 q] at e; cases e
theorem Gr.toKp (g : Gr NoS F H F' H') : Kp d l H H' := Kp.of_ex g.ex
theorem Gr.of_ex (h : Ex F H) (x : Ex H H') : Gr NoS F H F H' := ⟨fun _ _ e => e, h.trans x, fun a o _ e => x a o e, fun a e => by
  cases q : H a with
  | none => exact absurd q e
  | some o => rw [x a o q]; exact fun z => (by cases z), fun _ e _ => e⟩
end
theorem rep_zero (ns : List Int) (k : Nat) : ns.map V.int ++ (List.replicate k [V.int 0]).flatten = (ns ++ List.replicate k 0).map V.int := by
  rw [List.map_append, List.map_replicate]
  congr 1
  induction k with
  | zero => rfl
  | succ k ih => rw [List.replicate_succ, List.flatten_cons, ih]; rfl
theorem eqv_refl (d : PyData) (h : SeqAt.shaped d = true) : PyData.eqv d d = true := SeqAt.eqv_refl d (SeqAt.canLay_of_shaped h)
end CB

set_option Elab.async false
set_option linter.all false
set_option maxRecDepth 100000
set_option maxHeartbeats 2000000
namespace CB
open PySem PySem.Spec PyProof.Rows L2
section
variable {X : Cx} {K : PySem.W.Frag}
theorem pg_lstK {es : List Expr} {k n : Nat} {t : TGs} {pos : Pos} (hc : X.calm = true) (h : PGs X es t)
    (hn : (assignEach es X.env).length = n := by rfl) (hst : (assignEach es X.env).findIdx? (·.1) = none := by rfl) (hK : X.K = K := by rfl) : PG X (.Tuple es k pos) (gLst K n t) := hK ▸ pg_lst hc h hn hst
end
/-! ### sums -/
def S (n : Nat) (f : Nat → Int) : Int := ((List.range n).map f).sum
section
variable {n m k : Nat} {f g : Nat → Int}
theorem S_zero : S 0 f = 0 := rfl
theorem S_succ : S (n + 1) f = S n f + f n := by
  unfold S
  rw [List.range_succ, List.map_append, List.sum_append]
  simp
theorem S_congr : ∀ {n : Nat}, (∀ i, i < n → f i = g i) → S n f = S n g
  | 0, _ => rfl
  | n + 1, h => by rw [S_succ, S_succ, S_congr fun i hi => h i (by omega), h n (by omega)]
theorem S_add : ∀ {n : Nat}, S n (fun i => f i + g i) = S n f + S n g
  | 0 => rfl
  | n + 1 => by rw [S_succ, S_succ, S_succ, S_add]; omega
theorem S_mul (c : Int) : ∀ {n : Nat}, S n (fun i => c * f i) = c * S n f
  | 0 => by rw [S_zero, S_zero, Int.mul_zero]
  | n + 1 => by rw [S_succ, S_succ, S_mul c, Int.mul_add]
theorem S_mulr (c : Int) : ∀ {n : Nat}, S n (fun i => f i * c) = S n f * c
  | 0 => by rw [S_zero, S_zero, Int.zero_mul]
  | n + 1 => by rw [S_succ, S_succ, S_mulr c, Int.add_mul]
theorem S_null (h : ∀ i, i < n → f i = 0) : S n f = 0 := by
  rw [S_congr (g := fun _ => 0) h]
  clear h
  induction n with
  | zero => rfl
  | succ n ih => rw [S_succ, ih]; rfl
theorem S_swap {F : Nat → Nat → Int} : ∀ {n : Nat}, S n (fun i => S m (F i)) = S m (fun j => S n (fun i => F i j))
  | 0 => by
    rw [S_zero]
    exact (S_null fun _ _ => rfl).symm
  | n + 1 => by
    rw [S_succ, S_swap, ← S_add]
    exact S_congr fun j _ => S_succ.symm
theorem S_one : ∀ {n : Nat}, k < n → (∀ i, i < n → i ≠ k → f i = 0) → S n f = f k
  | 0, h, _ => by omega
  | n + 1, h, hz => by
    rw [S_succ]
    by_cases e : k = n
    · subst e
      rw [S_null fun i hi => hz i (by omega) (by omega)]
      omega
    · rw [S_one (n := n) (by omega) fun i hi => hz i (by omega), hz n (by omega) (fun h => e h.symm)]
      omega
theorem S_abs {B : Nat} : ∀ {n : Nat}, (∀ i, i < n → (f i).natAbs ≤ B) → (S n f).natAbs ≤ n * B
  | 0, _ => by simp [S_zero]
  | n + 1, h => by
    rw [S_succ, Nat.succ_mul]
    have h1 := S_abs (n := n) fun i hi => h i (by omega)
    have h2 := h n (by omega)
    omega
end
/-! ### maps of rows -/
def at2 (M : List (List Int)) (i j : Nat) : Int := (M.getD i []).getD j 0
def pbI (w : Nat) (M : List (List Int)) (p : List Int) (i : Nat) : List Int := (List.range w).map fun j => S i fun t => p.getD t 0 * at2 M t j
def pb (w : Nat) (M : List (List Int)) (p : List Int) : List Int := pbI w M p M.length
def sg (many k : Nat) : List Int := (List.range many).map fun j => if j = k then (1 : Int) else 0
def sm (many : Nat) : List (List Int) := (List.range many).map (sg many)
section
variable {w i j : Nat} {M : List (List Int)} {p : List Int} {x : Int} {row : List Int}
theorem pbI_len : (pbI w M p i).length = w := by unfold pbI; rw [List.length_map, List.length_range]
theorem pb_len : (pb w M p).length = w := pbI_len
theorem pbI_get (hj : j < w) : (pbI w M p i)[j]? = some (S i fun t => p.getD t 0 * at2 M t j) := by
  unfold pbI
  rw [List.getElem?_map, List.getElem?_range hj]
  rfl
theorem getD_of {α : Type} {l : List α} {a d : α} (h : l[i]? = some a) : l.getD i d = a := by rw [List.getD_eq_getElem?_getD, h]; rfl
theorem pbI_next {h t : Int} (ep : p[i]? = some x) (eM : M[i]? = some row) (hw : row.length = w) (eh : (pbI w M p i)[j]? = some h) (et : row[j]? = some t) : (pbI w M p (i + 1))[j]? = some (h + x * t) := by
  have hj : j < w := by
    have := (List.getElem?_eq_some_iff.mp et).1
    omega
  rw [pbI_get hj] at eh ⊢
  cases eh
  rw [S_succ, getD_of ep]
  unfold at2
  rw [getD_of eM, getD_of et]
theorem pbI_zero (ep : p[i]? = some 0) : pbI w M p (i + 1) = pbI w M p i := by
  unfold pbI
  refine List.map_congr_left fun j _ => ?_
  rw [S_succ, getD_of ep, Int.zero_mul, Int.add_zero]
theorem pbI_nil : pbI w M p 0 = List.replicate w 0 := by
  unfold pbI
  show (List.range w).map (fun _ => (0 : Int)) = _
  rw [List.map_const', List.length_range]
theorem sg_len {many k : Nat} : (sg many k).length = many := by unfold sg; rw [List.length_map, List.length_range]
theorem sm_len {many : Nat} : (sm many).length = many := by unfold sm; rw [List.length_map, List.length_range]
theorem sg_get {many k : Nat} (hj : j < many) : (sg many k).getD j 0 = if j = k then 1 else 0 := by
  apply getD_of
  unfold sg
  rw [List.getElem?_map, List.getElem?_range hj]
  rfl
theorem sm_row {many : Nat} (hj : j < many) : (sm many).getD j [] = sg many j := by
  apply getD_of
  unfold sm
  rw [List.getElem?_map, List.getElem?_range hj]
  rfl
theorem at2_sm {many : Nat} (hi : i < many) (hj : j < many) : at2 (sm many) i j = if j = i then 1 else 0 := by
  unfold at2
  rw [sm_row hi, sg_get hj]
/-- the same map changes nothing -/
theorem pb_same (h : p.length = w) : pb w (sm w) p = p := by
  apply List.ext_getElem?
  intro j
  by_cases hj : j < w
  · have ep : p[j]? = some (p.getD j 0) := by
      rw [List.getD_eq_getElem?_getD, List.getElem?_eq_getElem (by omega)]
      rfl
    unfold pb
    rw [pbI_get hj, sm_len, ep, S_one (k := j) hj]
    · rw [at2_sm hj hj, if_pos rfl, Int.mul_one]
    · intro i hi ne
      rw [at2_sm hi hj, if_neg (fun e => ne e.symm), Int.mul_zero]
  · rw [List.getElem?_eq_none (by rw [pb_len]; omega), List.getElem?_eq_none (by omega)]
theorem pb_sg (hw : ∀ r ∈ M, r.length = w) {k : Nat} (eM : M[k]? = some row) : pb w M (sg M.length k) = row := by
  have hk : k < M.length := (List.getElem?_eq_some_iff.mp eM).1
  have hr : row.length = w := hw row (List.mem_of_getElem? eM)
  apply List.ext_getElem?
  intro j
  by_cases hj : j < w
  · have ep : row[j]? = some (row.getD j 0) := by
      rw [List.getD_eq_getElem?_getD, List.getElem?_eq_getElem (by omega)]
      rfl
    unfold pb
    rw [pbI_get hj, ep, S_one (k := k) hk]
    · rw [sg_get hk, if_pos rfl, Int.one_mul]
      unfold at2
      rw [getD_of eM]
    · intro i hi ne
      rw [sg_get hi, if_neg ne, Int.zero_mul]
  · rw [List.getElem?_eq_none (by rw [pb_len]; omega), List.getElem?_eq_none (by omega)]
theorem pb_sm (hw : ∀ r ∈ M, r.length = w) : (sm M.length).map (pb w M) = M := by
  apply List.ext_getElem?
  intro k
  by_cases hk : k < M.length
  · have eM : M[k]? = some M[k] := List.getElem?_eq_getElem hk
    unfold sm
    rw [List.getElem?_map, List.getElem?_map, List.getElem?_range hk, eM]
    show some (pb w M (sg M.length k)) = _
    rw [pb_sg hw eM]
  · rw [List.getElem?_eq_none (by rw [List.length_map, sm_len]; omega), List.getElem?_eq_none (by omega)]
/-- one map behind another -/
theorem pb_both {O : List (List Int)} : pb w (O.map (pb w M)) p = pb w M (pb M.length O p) := by
  show pbI w (O.map (pb w M)) p (O.map (pb w M)).length = pbI w M (pb M.length O p) M.length
  rw [List.length_map]
  show (List.range w).map _ = (List.range w).map _
  refine List.map_congr_left fun j hj => ?_
  rw [List.mem_range] at hj
  have e1 : ∀ i, i < O.length → at2 (O.map (pb w M)) i j = S M.length fun t => at2 O i t * at2 M t j := fun i hi => by
    unfold at2
    have eO : O[i]? = some (O.getD i []) := by rw [List.getD_eq_getElem?_getD, List.getElem?_eq_getElem hi]; rfl
    rw [getD_of (l := O.map (pb w M)) (a := pb w M (O.getD i [])) (by rw [List.getElem?_map, eO]; rfl)]
    unfold pb
    rw [getD_of (pbI_get hj)]
    rfl
  rw [S_congr (g := fun i => S M.length fun t => p.getD i 0 * (at2 O i t * at2 M t j)) fun i hi => by rw [e1 i hi, S_mul], S_swap]
  refine S_congr fun t ht => ?_
  rw [getD_of (l := pb M.length O p) (pbI_get ht), ← S_mulr]
  exact S_congr fun i _ => by rw [Int.mul_assoc]
theorem pb_small {B C : Nat} (hp : ∀ x ∈ p, x.natAbs ≤ B) (hM : ∀ r ∈ M, ∀ x ∈ r, x.natAbs ≤ C) : ∀ x ∈ pb w M p, x.natAbs ≤ M.length * (B * C) := fun x hx => by
  obtain ⟨j, _, rfl⟩ := List.mem_map.mp hx
  refine S_abs fun i hi => ?_
  rw [Int.natAbs_mul]
  refine Nat.mul_le_mul ?_ ?_
  · rw [List.getD_eq_getElem?_getD]
    cases e : p[i]? with
    | none => exact Nat.zero_le _
    | some y => exact hp y (List.mem_of_getElem? e)
  · unfold at2
    rw [List.getD_eq_getElem?_getD]
    cases e : (M.getD i [])[j]? with
    | none => exact Nat.zero_le _
    | some y =>
      rw [List.getD_eq_getElem?_getD, List.getElem?_eq_getElem hi] at e
      exact hM _ (List.getElem_mem hi) y (List.mem_of_getElem? e)
end
/-- the promises -/
def sp_single (K : PySem.W.Frag) : Sp := fun vs H Q _ => ∃ (m k : Nat) (F : Hp), vs = [.int (m : Int), .int (k : Int)] ∧ Ex F H ∧ m ≤ 1000 ∧ RetD K F H Q (ti (sg m k))
def sp_same_map (K : PySem.W.Frag) : Sp := fun vs H Q _ => ∃ (n m : Nat) (d : Int) (F : Hp), vs = [.int (n : Int), .int d] ∧ Ex F H ∧ n ≤ 6 ∧ 0 ≤ d ∧ d ≤ 6 ∧ hm d n = (m : Int) ∧ m ≤ 1000 ∧ RetD K F H Q (tti (sm m))
abbrev Wid (w : Nat) (M : List (List Int)) : Prop := ∀ r ∈ M, r.length = w
abbrev Few (p : List Int) : Prop := ∀ x ∈ p, -(2 ^ 64) < x ∧ x < 2 ^ 64
def sp_put_back (K : PySem.W.Frag) : Sp := fun vs H Q _ => ∃ (v1 v2 : V) (M : List (List Int)) (p : List Int) (w : Nat) (F : Hp), vs = [v1, v2] ∧ Ex F H ∧ Dp K F v1 (tti M) ∧ Dp K F v2 (ti p) ∧ M ≠ [] ∧ Wid w M ∧ w ≤ 1000 ∧ M.length ≤ 1000 ∧ p.length = M.length ∧ Few p ∧ RetD K F H Q (ti (pb w M p))
def sp_behind (K : PySem.W.Frag) : Sp := fun vs H Q _ => ∃ (v1 v2 : V) (M O : List (List Int)) (w : Nat) (F : Hp), vs = [v1, v2] ∧ Ex F H ∧ Dp K F v1 (tti M) ∧ Dp K F v2 (tti O) ∧ M ≠ [] ∧ Wid w M ∧ w ≤ 1000 ∧ M.length ≤ 1000 ∧ O.length ≤ 1000 ∧ Wid M.length O ∧ (∀ p ∈ O, Few p) ∧ RetD K F H Q (tti (O.map (pb w M)))
/-- _law_put_back: the width is told -/
def sp_put_backL (K : PySem.W.Frag) : Sp := fun vs H Q _ => ∃ (v1 v2 : V) (M : List (List Int)) (p : List Int) (w : Nat) (F : Hp), vs = [v1, v2, .int (w : Int)] ∧ Ex F H ∧ Dp K F v1 (tti M) ∧ Dp K F v2 (ti p) ∧ Wid w M ∧ w ≤ 1000 ∧ M.length ≤ 1000 ∧ p.length = M.length ∧ Few p ∧ RetD K F H Q (ti (pb w M p))
/-! ### data alike -/
def Al : Nat → PyData → Prop
  | 0, d => ∃ i, d = .int i
  | n + 1, d => ∃ ds, d = .tuple ds ∧ ds.length ≤ 1000 ∧ ∀ x ∈ ds, Al n x
def spA (K : PySem.W.Frag) : Nat → Sp
  | 0 => fun _ _ _ _ => False
  | n + 1 => fun vs H Q _ => ∃ (v1 v2 : V) (d : PyData) (F : Hp), vs = [v1, v2] ∧ Ex F H ∧ Dp K F v1 d ∧ Dp K F v2 d ∧ Al n d ∧ ∀ H', Ex H H' → Q (.bl true) H'
theorem al_ti {p : List Int} (h : p.length ≤ 1000) : Al 1 (ti p) := ⟨_, rfl, by rw [List.length_map]; exact h, fun x hx => by
  obtain ⟨i, _, rfl⟩ := List.mem_map.mp hx
  exact ⟨i, rfl⟩⟩
theorem al_tti {M : List (List Int)} (h : M.length ≤ 1000) (h2 : ∀ p ∈ M, p.length ≤ 1000) : Al 2 (tti M) := ⟨_, rfl, by rw [List.length_map]; exact h, fun x hx => by
  obtain ⟨p, hp, rfl⟩ := List.mem_map.mp hx
  exact al_ti (h2 p hp)⟩
end CB

set_option Elab.async false
set_option linter.all false
set_option maxRecDepth 100000
set_option maxHeartbeats 2000000
/-! max(a list of numbers, default=d) -/
namespace CB
open PySem PySem.Spec PyProof.Rows L2
def IsMx (num : Nat → Int) (j : Nat) (b : Int) : Prop := (∃ i, i < j ∧ num i = b) ∧ ∀ i, i < j → num i ≤ b
def Best (num : Nat → Int) (j : Nat) (old : Array Value) : Prop := (old = #[] ∧ j = 0) ∨ ∃ b t, old = #[.int b t, .int b t] ∧ IsMx num j b
def OutD (num : Nat → Int) (n : Nat) (d v : Value) : Prop := (n = 0 ∧ v = d) ∨ ∃ b t, v = .int b t ∧ IsMx num n b
section
variable {prog : Program} {w : World} {A : Around} {R : Result → Shared → Prop} {I : Addr} {fp wr : List Addr} {n : Nat} {P : Nat → Value → Prop} {St : Nat → Heap → Prop}
theorem IsMx.up {num : Nat → Int} {j : Nat} {b : Int} (h : IsMx num j b) (hg : num j > b) : IsMx num (j + 1) (num j) := ⟨⟨j, by omega, rfl⟩, fun i hi => by
  by_cases e : i = j
  · rw [e]; omega
  · have := h.2 i (by omega); omega⟩
theorem IsMx.stay {num : Nat → Int} {j : Nat} {b : Int} (h : IsMx num j b) (hg : ¬ num j > b) : IsMx num (j + 1) b := ⟨by obtain ⟨i, hi, e⟩ := h.1; exact ⟨i, by omega, e⟩, fun i hi => by
  by_cases e : i = j
  · rw [e]; omega
  · exact h.2 i (by omega)⟩
theorem max_loopD (W : Walks prog w A.in1 I fp wr n P St) {num : Nat → Int} (hnum : ∀ i v, P i v → ∃ t, v = .int (num i) t) (d : Value) {B : Addr} (hB : B ∉ fp) :
    ∀ (k j : Nat) (s : Shared) (old : Array Value) (c : Nat), n - j = k → j ≤ n → St j s.heap → Best num j old → s.heap.get? B = some { cls := .type "list", dict := none, data := .seq old c, slots := #[] } →
    (∀ v h' tk, OutD num n d v → (∀ b o, b ∉ wr → b ≠ B → s.heap.get? b = some o → h'.get? b = some o) → R (.ok (.ret v)) { s with heap := h', toks := tk }) →
    codeAny (model prog w) A (.builtin "max.loop" ⟨[.ref I, .none, .ref B], [("default", d)]⟩) R s := by
  have hBw : B ∉ wr := fun h => hB (W.sub _ h)
  have hname : (toString "max" ++ toString ".loop" : String) = "max.loop" := by decide
  intro k
  induction k with
  | zero =>
    intro j s old c hk hj hst hbest hS hR
    have hin : j = n := by omega
    subst hin
    refine codeAny_builtin F.entry_max_loop ?_
    rw [Around.under_plainId F.plain_max_loop _]
    show wpAny _ A.in1 (seqItems? (.ref B) >>= _) _ _ s
    refine wpAny_bind (wpAny_seqItems hS rfl ?_)
    show wpAny _ A.in1 (tryCatch (pyNext (.ref I)) _ >>= _) _ _ s
    refine wpAny_bind (wpAny_tryCatch (W.done s _ _ hst fun h' tk hk' => ?_))
    have hS' := hk' B _ hBw hS
    rcases hbest with ⟨rfl, h0⟩ | ⟨b, t, rfl, hm⟩
    · exact wpAny_bind (wpAny_rule (wpAny_pure (hR d h' tk (.inl ⟨h0, rfl⟩) fun b o hbw _ e => hk' b o hbw e)))
    · show wpAny _ A.in1 (updateSeq B (fun _ => #[]) >>= _) _ _ _
      refine wpAny_bind (wpAny_updateSeq hS' rfl (wpAny_bind (wpAny_letGo (wpAny_pure ?_))))
      exact hR _ _ tk (.inr ⟨b, t, rfl, hm⟩) fun x o hbw hbS e => (Heap.get?_update_other _ _ (Ne.symm hbS)).trans (hk' x o hbw e)
  | succ k ih =>
    intro j s old c hk hj hst hbest hS hR
    have hlt : j < n := by omega
    refine codeAny_builtin F.entry_max_loop ?_
    rw [Around.under_plainId F.plain_max_loop _]
    show wpAny _ A.in1 (seqItems? (.ref B) >>= _) _ _ s
    refine wpAny_bind (wpAny_seqItems hS rfl ?_)
    show wpAny _ A.in1 (tryCatch (pyNext (.ref I)) _ >>= _) _ _ s
    refine wpAny_bind (wpAny_tryCatch (W.item j s _ _ hlt hst fun v h' tk hP hst' hk' => ?_))
    have hS' := hk' B _ hBw hS
    obtain ⟨u, rfl⟩ := hnum j v hP
    -- the rest, once the best stands
    have go : ∀ (h2 : Heap) (tk2 : Nat) (old2 : Array Value) (c2 : Nat), St (j + 1) h2 → Best num (j + 1) old2 → h2.get? B = some { cls := .type "list", dict := none, data := .seq old2 c2, slots := #[] } → (∀ b o, b ∉ wr → b ≠ B → s.heap.get? b = some o → h2.get? b = some o) →
        codeAny (model prog w) A (.builtin "max.loop" ⟨[.ref I, .none, .ref B], [("default", d)]⟩) R { s with heap := h2, toks := tk2 } := fun h2 tk2 old2 c2 st2 b2 g2 k2 =>
      ih (j + 1) { s with heap := h2, toks := tk2 } old2 c2 (by omega) hlt st2 b2 g2 fun v' h'' tk'' ho hk'' => hR v' h'' tk'' ho fun b o hbw hbS e => hk'' b o hbw hbS (k2 b o hbw hbS e)
    have fr : ∀ (h2 : Heap), (∀ b, b ≠ B → h2.get? b = h'.get? b) → St (j + 1) h2 := fun h2 q => W.frame _ _ _ hst' fun b hbf o e => (q b fun z => hB (z ▸ hbf)).trans e
    rcases hbest with ⟨rfl, h0⟩ | ⟨b, t, rfl, hm⟩
    · show wpAny _ A.in1 (updateSeq B (fun _ => #[Value.int (num j) u, Value.int (num j) u]) >>= _) _ _ _
      refine wpAny_bind (wpAny_updateSeq hS' rfl ?_)
      rw [hname]
      refine wpAny_pure ⟨plainId_quiet F.plain_max_loop _, go _ tk _ _ (fr _ fun b hb => Heap.get?_update_other _ _ (Ne.symm hb)) (.inr ⟨num j, u, rfl, ⟨j, by omega, rfl⟩, fun i hi => ?_⟩) (Heap.get?_update_self _ hS' rfl) fun x o hbw hbS e => (Heap.get?_update_other _ _ (Ne.symm hbS)).trans (hk' x o hbw e)⟩
      have : i = j := by omega
      rw [this]
      exact Int.le_refl _
    · show wpAny _ A.in1 (tryCatch (holding [Value.int (num j) u, Value.int (num j) u] (richCompare .Gt (Value.int (num j) u) (Value.int b t) >>= _)) _ >>= _) _ _ _
      have hcmp := CmpOf.ints_gt (prog := prog) (w := w) (A := A.in1) (P := fun i v => ∃ t, v = Value.int (if i = 0 then num j else b) t) (fun i => if i = 0 then num j else b) (fun i v h => h)
      refine wpAny_bind (wpAny_tryCatch (wpAny_holding (wpAny_bind (hcmp 0 1 _ _ _ _ _ ⟨u, rfl⟩ ⟨t, rfl⟩ ?_))))
      refine wpAny_bind (wpAny_holding (wpAny_truthy_bool ?_))
      refine wpAny_bind (wpAny_letGo (wpAny_pure ?_))
      by_cases hg : num j > b
      · have e : decide ((if (0 : Nat) = 0 then num j else b) > if (1 : Nat) = 0 then num j else b) = true := decide_eq_true hg
        rw [if_pos e]
        refine wpAny_bind ?_
        refine wpAny_updateSeq hS' rfl (wpAny_bind (wpAny_letGo ?_))
        rw [hname]
        exact wpAny_pure ⟨plainId_quiet F.plain_max_loop _, go _ tk _ _ (fr _ fun b hb => Heap.get?_update_other _ _ (Ne.symm hb)) (.inr ⟨num j, u, rfl, hm.up hg⟩) (Heap.get?_update_self _ hS' rfl) fun x o hbw hbS e => (Heap.get?_update_other _ _ (Ne.symm hbS)).trans (hk' x o hbw e)⟩
      · have e : decide ((if (0 : Nat) = 0 then num j else b) > if (1 : Nat) = 0 then num j else b) = false := decide_eq_false hg
        rw [if_neg (fun h => Bool.false_ne_true (e.symm.trans h))]
        refine wpAny_bind (wpAny_letGo ?_)
        rw [hname]
        exact wpAny_pure ⟨plainId_quiet F.plain_max_loop _, go _ tk _ _ hst' (.inr ⟨b, t, rfl, hm.stay hg⟩) hS' fun x o hbw _ e => hk' x o hbw e⟩
theorem args_maxD (a d : Value) : argsOk "max" ⟨[a], [("default", d)]⟩ := by unfold argsOk; kernel_rfl
theorem tree_kw {E : Value → Shared → Prop} {s : Shared} {id : String} {b : Builtin} {args : List Value} {kw : List (Str × Value)} {Q : Value → Shared → Prop} (hk : builtinKind id = none) (hp : plainId id = true) (hb : entryFor table id = some b) (ha : argsOk id ⟨args, kw⟩)
    (hc : wpAny (model prog w) A.in1 (b ⟨args, kw⟩) (fun fin s' => match fin with
      | .done f => (match (Except.ok f : Result) with | .ok (.ret v) => Q v s' | .ok _ => False | .error e => E e s')
      | .again c' => c'.quiet = true ∧ codeAny (model prog w) A c' (fun r s' => match r with | .ok (.ret v) => Q v s' | .ok _ => False | .error e => E e s') s') E s) :
    wpAny (model prog w) A (call (.builtin id) args kw) Q E s := by
  refine wpAny_call (codeAny_call_builtin hp hb ?_)
  simp only [checkBuiltinCall, hk]
  cases hsig : Manifest.signature? id with
  | none => exact wpAny_pure hc
  | some sig =>
    simp only [argsOk, hsig] at ha
    have h2 : Bind.checkArgs id sig ⟨args, kw⟩ = pure () := ha
    show wpAny _ A.in1 (Bind.checkArgs id sig ⟨args, kw⟩) _ _ s
    rw [h2]
    exact wpAny_pure hc
theorem maxD_list {E : Value → Shared → Prop} {s : Shared} {l : Addr} {xs : Array (Int × Tok)} {d : Value} {Q : Value → Shared → Prop} (hh : A.handled = none) (hl : s.heap.IsList l (intItems xs))
    (h : ∀ v h' tk, OutD (numAt xs) xs.size d v → (∀ b o, s.heap.get? b = some o → h'.get? b = some o) → Q v { s with heap := h', toks := tk }) :
    wpAny (model prog w) A (call (.builtin "max") [.ref l] [("default", d)]) Q E s := by
  have hname : (toString "max" ++ toString ".loop" : String) = "max.loop" := by decide
  refine tree_kw F.kind_max F.plain_max F.entry_max (args_maxD _ _) ?_
  show wpAny _ A.in1 (Builtin.Builtins.bindParams "max" ["key", "default"] 0 ⟨[], [("default", d)]⟩ >>= _) _ _ s
  refine wpAny_bind (wpAny_of_eq (show Builtin.Builtins.bindParams "max" ["key", "default"] 0 ⟨[], [("default", d)]⟩ = pure [none, some d] from rfl) ?_)
  refine wpAny_bind (wpAny_pure ?_)
  refine wpAny_bind (iter_intList hl fun s₂ e st hfp hne => ?_)
  subst e
  refine wpAny_bind (wpAny_newObj_type ?_)
  rw [hname]
  have W := Walks.list (prog := prog) (w := w) (A := A.in1) hh _ l hne (intItems xs)
  have hsz : (intItems xs).size = xs.size := by unfold intItems; exact Array.size_map
  refine wpAny_pure ⟨plainId_quiet F.plain_max_loop _, max_loopD W (num := numAt xs) (fun i v => intItems_at) d (fun hm => Nat.lt_irrefl _ (hfp _ hm)) _ 0 _ #[] _ rfl (Nat.zero_le _) (W.frame _ _ _ st fun b _ o e => Heap.get?_push_of_some _ e) (.inl ⟨rfl, rfl⟩) (Heap.get?_push_size _ rfl) fun v h' tk ho hk => ?_⟩
  rw [hsz] at ho
  refine h v h' tk ho fun b o e => ?_
  have e1 := Heap.lt_size e
  refine hk b o (fun hm => ?_) (fun hm => ?_) (Heap.get?_push_of_some _ (Heap.get?_push_of_some _ e))
  · rw [List.mem_singleton.mp hm] at e1
    exact Nat.lt_irrefl _ e1
  · rw [hm] at e1
    have : s.heap.objs.size ≤ (s.heap.push { cls := .type "list_iterator", data := .fields #[.ref l, .int 0 0] }).objs.size := by rw [Heap.size_push]; omega
    exact absurd e1 (Nat.not_lt.mpr this)
end
/-- the greatest of a list, or what is said for none -/
def mxD (d : Int) : List Int → Int
  | [] => d
  | n :: r => r.foldl max n
theorem foldl_max_le : ∀ (r : List Int) (n : Int), n ≤ r.foldl max n ∧ ∀ x ∈ r, x ≤ r.foldl max n
  | [], n => ⟨Int.le_refl _, fun x hx => by cases hx⟩
  | y :: r, n => by
    obtain ⟨h1, h2⟩ := foldl_max_le r (max n y)
    show n ≤ r.foldl max (max n y) ∧ _
    refine ⟨by omega, fun x hx => ?_⟩
    rcases List.mem_cons.mp hx with rfl | hx
    · show x ≤ r.foldl max (max n x)
      omega
    · exact h2 x hx
theorem foldl_max_mem : ∀ (r : List Int) (n : Int), r.foldl max n ∈ n :: r
  | [], n => List.mem_cons_self
  | y :: r, n => by
    have h := foldl_max_mem r (max n y)
    show r.foldl max (max n y) ∈ _
    rcases List.mem_cons.mp h with h | h
    · rw [h]
      by_cases e : n ≤ y
      · rw [Int.max_eq_right e]; simp
      · rw [Int.max_eq_left (by omega)]; simp
    · exact List.mem_cons_of_mem _ (List.mem_cons_of_mem _ h)
theorem mxD_of {d : Int} {ns : List Int} {M : Int} (h : M ∈ ns) (h2 : ∀ x ∈ ns, x ≤ M) : mxD d ns = M := by
  cases ns with
  | nil => cases h
  | cons n r =>
    obtain ⟨h3, h4⟩ := foldl_max_le r n
    have h5 := foldl_max_mem r n
    have h6 := h2 _ h5
    show r.foldl max n = M
    rcases List.mem_cons.mp h with rfl | h
    · omega
    · have := h4 M h; omega
theorem maxD_raw {prog : Program} {w : World} {A : Around} {E : Value → Shared → Prop} {s : Shared} {l : Addr} {its : List Value} {ns : List Int} {d : Int} {t : Tok} {Q : Value → Shared → Prop} (hh : A.handled = none) (hl : s.heap.IsList l its.toArray) (hi : IntsAre its ns)
    (h : ∀ h' tk t', (∀ b o, s.heap.get? b = some o → h'.get? b = some o) → Q (.int (mxD d ns) t') { s with heap := h', toks := tk }) : wpAny (model prog w) A (call (.builtin "max") [.ref l] [("default", .int d t)]) Q E s := by
  obtain ⟨xs, e⟩ := hi.allInts.items
  have hn : numsOf (intItems xs).toList = ns := by rw [← e]; exact hi.numsOf
  rw [nums_intItems] at hn
  subst hn
  rw [e] at hl
  refine maxD_list hh hl fun v h' tk ho hk => ?_
  rcases ho with ⟨h0, rfl⟩ | ⟨b, t', rfl, ⟨i, hi, rfl⟩, hm2⟩
  · have e0 : xs.toList = [] := List.length_eq_zero_iff.mp (by rw [Array.length_toList]; exact h0)
    have := h h' tk t hk
    rw [e0] at this
    exact this
  · rw [← mxD_of (d := d) (ns := xs.toList.map (·.1)) (M := numAt xs i)]
    · exact h h' tk t' hk
    · rw [numAt_eq]; exact PySem.getD_mem (by rw [List.length_map, Array.length_toList]; omega)
    · intro a ha
      obtain ⟨j, hj, rfl⟩ := mem_getD ha
      rw [List.length_map, Array.length_toList] at hj
      rw [← numAt_eq]
      exact hm2 j (by omega)
def tMaxD (K : PySem.W.Frag) (t : TA) (tk : TA) : TE := fun σ H Q => t σ H fun vs H1 => tk σ H1 fun zs H2 => ∃ (a : Addr) (ns : List Int) (d : Int), vs = [V.ref a] ∧ zs = [V.int d] ∧ SqL K H2 a (ns.map V.int) ∧ Q (.int (mxD d ns)) H2
theorem pe_maxD {X : Cx} {K : PySem.W.Frag} {p pos kpos : Pos} {e e2 : Expr} {t tk : TA} (hc : X.calm = true) (hg : Gl X "max") (hm : X.mg "max" = none) (ha : PA X [e] t) (hk : PK X [⟨some "default", e2, kpos⟩] tk) (hK : X.K = K := by rfl)
    (he : backTo pos (starEach [e] X.env) = (false, eval e X.env) :: backTo pos (starEach [] X.env) := by rfl) (hpl : (backTo pos (starEach [e] X.env)).any (·.1) = false := by rfl) :
    PE X (.Call (.Name "max" p) [e] [⟨some "default", e2, kpos⟩] pos) (tMaxD K t tk) := by
  subst hK
  refine ⟨fun pins s σ H Q I h => ?_⟩
  refine wpAny_Call_Name_kw (ld_blt I hg hm bt_max ?_ (by decide) (by decide))
  refine PyProof.Rows.callWith_kw (thn (ha.run pos pins s σ H _ I h) fun us s1 ⟨vs, H1, I1, r1, q1⟩ => thn (hk.run pos pins s1 σ H1 _ I1 q1) fun ws s2 ⟨zs, H2, I2, r2, q2⟩ => ?_) he hpl
  obtain ⟨a, ns, d, rfl, rfl, hs, q⟩ := q2
  obtain ⟨its, rv, hl, _⟩ := I2.list hs
  rw [Vals.ref1 r1]
  obtain ⟨u, rfl, tt, rfl⟩ := vals1 r2
  exact maxD_raw (I2.ok.hd hc) hl.isList rv.ints fun h' tk t' hk => ⟨.int _, H2, I2.kept hk, ⟨_, rfl⟩, q⟩
end CB

set_option Elab.async false
set_option linter.all false
set_option maxRecDepth 100000
set_option maxHeartbeats 2000000
/-! a tuple times a number, once or more -/
namespace CB
open PySem PySem.Spec PyProof.Rows L2
theorem tuple_mul1 (l : Addr) (items : Array Value) (n : Nat) (dd : Option Addr) (sl : Array (Option Value)) (u : Tok) :
    Meets (Builtin.«tuple.__mul__» ⟨[.ref l, .int 1 u], []⟩) (fun _ R s => s.heap.get? l = some { cls := .type "tuple", dict := dd, data := .seq items n, slots := sl } ∧ R (.ok (.ret (Value.ref l))) s) :=
  .of_wp fun prog w A R s h => by
    obtain ⟨hp, g, d, tk, os⟩ := s
    obtain ⟨hl, h⟩ := h
    have f1 := AutoSeq1.idx_int
    wp_walk using wpAny_loadPart' hl
    exact ⟨_, rfl, h⟩
def rRepT1 (K : PySem.W.Frag) : R2 := fun x y H Q => ∃ l k xs, x = .ref l ∧ y = .int k ∧ SqT K H l xs ∧ xs ≠ [] ∧ 1 ≤ k ∧ k ≤ 1000 ∧ xs.length ≤ 1000 ∧ (k = 1 → Q (.ref l) H) ∧ ∀ p, H p = none → Q (.ref p) (upd H p (.tup (List.replicate k.toNat xs).flatten))
theorem op_repT1 {X : Cx} {K : PySem.W.Frag} (hK : X.K = K := by rfl) : OpR X (binaryOp .Mult) (rRepT1 K) := by
  subst hK
  intro pins s σ H x y v u Q I rx ry h
  obtain ⟨l, k, xs, rfl, rfl, hT, hne, h1, h2, hz, q1, q⟩ := h
  by_cases e : k = 1
  · subst e
    cases rx
    obtain ⟨t, rfl⟩ := ry
    obtain ⟨its, r, ⟨⟨cls, dd, data, sl⟩, ho, hc, n, hd⟩, hs⟩ := I.tuple hT
    simp only at hc hd
    subst hc hd
    exact wpAny_binaryOp_repeat_ref (T := "tuple") (U := "int") (by decide) ⟨_, ho, rfl⟩ (fun s' => typeIs_int s' 1 t) noFill_tuple_mul F.fills_int_mul F.slot_int_rmul repeat_tuple F.slot_int_index.lookup
      (call_meets F.slot_int_rmul (typeIs_int s 1 t) F.entry_int_rmul (F.args_int_rmul_2 _ _) (int_rmul_tuple 1 t l its.toArray n dd sl)
        ⟨ho, rfl, ⟨_, ho, rfl⟩, call_meets F.slot_tuple_mul ⟨_, ho, rfl⟩ F.entry_tuple_mul (F.args_tuple_mul_2 _ _) (tuple_mul1 l its.toArray n dd sl t) ⟨ho, ⟨.ref l, H, I, rfl, q1 rfl⟩⟩⟩)
  · exact op_repT pins s σ H _ _ v u Q I rx ry ⟨l, k, xs, rfl, rfl, hT, hne, by omega, h2, hz, q⟩
/-! ### what was not frozen and stood stays unfrozen, beside the deal -/
structure Nf (F H F' : Hp) : Prop where
  ex : Ex F F'
  nf : ∀ a, F a = none → H a ≠ none → F' a = none
section
variable {d l z : Addr} {F H F1 H1 F2 H2 : Hp} {o : HO}
theorem Wr.alive (W : Wr d l F1 H1) (k : Kp d l H H1) {a : Addr} (h : H a ≠ none) : H1 a ≠ none := by
  obtain ⟨s, n, ls, D⟩ := W.deal
  by_cases e1 : a = d
  · rw [e1, D.hd]; exact fun h => by cases h
  · by_cases e2 : a = l
    · rw [e2, D.hl]; exact fun h => by cases h
    · cases q : H a with
      | none => exact absurd q h
      | some u => rw [k a u e1 e2 q]; exact fun h => by cases h
theorem Nf.refl : Nf F H F := ⟨Evl.Ex.refl _, fun _ e _ => e⟩
theorem Nf.new (h : Nf F H F1) (W : Wr d l F1 H1) (k : Kp d l H H1) (hz : H1 z = none) : Nf F H (upd F1 z o) :=
  ⟨h.ex.trans (Evl.Ex.new (sub_none W.sub hz)), fun a e1 e2 => by
    have ne : a ≠ z := fun e => W.alive k e2 (by rw [e]; exact hz)
    rw [upd_ne ne]
    exact h.nf a e1 e2⟩
theorem Nf.gr (h : Nf F H F1) (W : Wr d l F1 H1) (k : Kp d l H H1) (g : Gr NoS F1 H1 F2 H2) : Nf F H F2 := ⟨h.ex.trans g.fz, fun a e1 e2 => g.nf a (h.nf a e1 e2) (W.alive k e2)⟩
theorem Nf.trans (h : Nf F H F1) (W : Wr d l F1 H1) (k : Kp d l H H1) (g : Nf F1 H1 F2) : Nf F H F2 := ⟨h.ex.trans g.ex, fun a e1 e2 => g.nf a (h.nf a e1 e2) (W.alive k e2)⟩
end
theorem cut_mem {xs : List V} {lo hi : Option Int} {y : V} (h : y ∈ cutV xs lo hi) : y ∈ xs := by
  unfold cutV at h
  exact List.mem_of_mem_drop (List.mem_of_mem_take h)
theorem cut_len (xs : List V) (lo hi : Option Int) : (cutV xs lo hi).length ≤ xs.length := by
  unfold cutV
  rw [List.length_take, List.length_drop]
  omega
/-! ### rows made bare -/
/-- the common part of a row -/
def gcF (g : Nat) (row : List Int) : Nat := row.foldl (fun g x => Nat.gcd g x.natAbs) g
def gc (row : List Int) : Nat := gcF 0 row
/-- the last number that is not 0, or 0 -/
def ls : List Int → Int
  | [] => 0
  | x :: r => if ls r = 0 then x else ls r
/-- what a row is divided by -/
def sc (row : List Int) : Int := if ls row < 0 then 0 - (gc row : Int) else gc row
def bareL (row : List Int) : List Int := if gc row = 0 then row else row.map fun x => x.fdiv (sc row)
theorem gcF_snoc (g : Nat) (row : List Int) (x : Int) : gcF g (row ++ [x]) = Nat.gcd (gcF g row) x.natAbs := by
  unfold gcF
  rw [List.foldl_append]
  rfl
theorem gcF_dvd : ∀ (row : List Int) (g : Nat), gcF g row ∣ g ∧ ∀ x ∈ row, gcF g row ∣ x.natAbs
  | [], g => ⟨Nat.dvd_refl _, fun x hx => by cases hx⟩
  | y :: r, g => by
    obtain ⟨h1, h2⟩ := gcF_dvd r (Nat.gcd g y.natAbs)
    refine ⟨Nat.dvd_trans h1 (Nat.gcd_dvd_left _ _), fun x hx => ?_⟩
    rcases List.mem_cons.mp hx with rfl | hx
    · exact Nat.dvd_trans h1 (Nat.gcd_dvd_right _ _)
    · exact h2 x hx
theorem gcF_mul (c : Int) : ∀ (row : List Int) (g : Nat), gcF (c.natAbs * g) (row.map fun x => c * x) = c.natAbs * gcF g row
  | [], g => rfl
  | y :: r, g => by
    show gcF (Nat.gcd (c.natAbs * g) (c * y).natAbs) (r.map fun x => c * x) = c.natAbs * gcF (Nat.gcd g y.natAbs) r
    rw [Int.natAbs_mul, Nat.gcd_mul_left, gcF_mul c r]
theorem gc_mul (c : Int) (row : List Int) : gc (row.map fun x => c * x) = c.natAbs * gc row := by
  have := gcF_mul c row 0
  rw [Nat.mul_zero] at this
  exact this
theorem gc_zero {row : List Int} : gc row = 0 → ∀ x ∈ row, x = 0 := fun h x hx => by
  have := (gcF_dvd row 0).2 x hx
  unfold gc at h
  rw [h, Nat.zero_dvd] at this
  omega
theorem ls_mul {c : Int} (hc : c ≠ 0) : ∀ row : List Int, ls (row.map fun x => c * x) = c * ls row
  | [] => by simp [ls]
  | x :: r => by
    show (if ls (r.map fun x => c * x) = 0 then c * x else ls (r.map fun x => c * x)) = c * (if ls r = 0 then x else ls r)
    rw [ls_mul hc r]
    by_cases h : ls r = 0
    · rw [if_pos h, if_pos (by rw [h, Int.mul_zero])]
    · rw [if_neg h, if_neg (Int.mul_ne_zero hc h)]
theorem ls_mem : ∀ {row : List Int}, ls row ≠ 0 → ls row ∈ row
  | [], h => absurd rfl h
  | x :: r, h => by
    show (if ls r = 0 then x else ls r) ∈ _
    by_cases e : ls r = 0
    · rw [if_pos e]; exact List.mem_cons_self
    · rw [if_neg e]; exact List.mem_cons_of_mem _ (ls_mem e)
theorem ls_zero : ∀ {row : List Int}, ls row = 0 → ∀ x ∈ row, x = 0
  | [], _, x, hx => by cases hx
  | y :: r, h, x, hx => by
    have h' : (if ls r = 0 then y else ls r) = 0 := h
    by_cases e : ls r = 0
    · rw [if_pos e] at h'
      rcases List.mem_cons.mp hx with rfl | hx
      · exact h'
      · exact ls_zero e x hx
    · rw [if_neg e] at h'
      exact absurd h' e
theorem ls_null : ∀ {row : List Int}, (∀ x ∈ row, x = 0) → ls row = 0
  | [], _ => rfl
  | y :: r, h => by
    show (if ls r = 0 then y else ls r) = 0
    rw [if_pos (ls_null fun x hx => h x (List.mem_cons_of_mem _ hx))]
    exact h y List.mem_cons_self
theorem gc_pos {row : List Int} (h : ls row ≠ 0) : gc row ≠ 0 := fun e => h (gc_zero e _ (ls_mem h))
theorem sc_ne {row : List Int} (h : gc row ≠ 0) : sc row ≠ 0 := by
  unfold sc
  split <;> omega
theorem sc_abs {row : List Int} : (sc row).natAbs = gc row := by
  unfold sc
  split <;> omega
theorem sc_mul {row : List Int} (h : gc row ≠ 0) {x : Int} (hx : x ∈ row) : x = sc row * x.fdiv (sc row) := by
  have hd : sc row ∣ x := Int.natAbs_dvd_natAbs.mp (by rw [sc_abs]; exact (gcF_dvd row 0).2 x hx)
  exact (Int.mul_fdiv_cancel' hd).symm
theorem bare_mul {row : List Int} (h : gc row ≠ 0) : row = (bareL row).map fun x => sc row * x := by
  unfold bareL
  rw [if_neg h, List.map_map]
  conv => lhs; rw [← List.map_id row]
  exact List.map_congr_left fun x hx => sc_mul h hx
theorem bare_gc {row : List Int} (h : gc row ≠ 0) : gc (bareL row) = 1 := by
  have e := congrArg gc (bare_mul h)
  rw [gc_mul, sc_abs] at e
  exact Nat.eq_of_mul_eq_mul_left (Nat.pos_of_ne_zero h) (by omega)
theorem bare_ls {row : List Int} (h : gc row ≠ 0) : ¬ ls (bareL row) < 0 := fun hn => by
  have e := congrArg ls (bare_mul h)
  rw [ls_mul (sc_ne h)] at e
  by_cases hs : ls row < 0
  · have h2 : sc row = 0 - (gc row : Int) := if_pos hs
    have h3 : sc row < 0 := by omega
    have := Int.mul_pos_of_neg_of_neg h3 hn
    omega
  · have h2 : sc row = (gc row : Int) := if_neg hs
    have h3 : 0 < sc row := by omega
    have := Int.mul_neg_of_pos_of_neg h3 hn
    omega
theorem bare_bare (row : List Int) : bareL (bareL row) = bareL row := by
  by_cases h : gc row = 0
  · unfold bareL
    rw [if_pos h, if_pos h]
  · have h1 := bare_gc h
    have h2 : sc (bareL row) = 1 := by
      unfold sc
      rw [if_neg (bare_ls h), h1]
      rfl
    have h3 : bareL (bareL row) = (bareL row).map fun x => x.fdiv (sc (bareL row)) := if_neg (by omega)
    rw [h3, h2]
    conv => rhs; rw [← List.map_id (bareL row)]
    exact List.map_congr_left fun x _ => Int.fdiv_one x
/-- the place of the last number that is not 0 -/
def IsLd (row : List Int) (k : Int) : Prop := (k = -1 ∧ ∀ x ∈ row, x = 0) ∨ ∃ (n : Nat) (x : Int), k = n ∧ row[n]? = some x ∧ x ≠ 0 ∧ ∀ j y, n < j → row[j]? = some y → y = 0
theorem IsLd.uniq {row : List Int} {k k' : Int} (h : IsLd row k) (h' : IsLd row k') : k = k' := by
  rcases h with ⟨rfl, hz⟩ | ⟨n, x, rfl, e, ne, hz⟩
  · rcases h' with ⟨rfl, _⟩ | ⟨m, y, rfl, e', ne', _⟩
    · rfl
    · exact absurd (hz y (List.mem_of_getElem? e')) ne'
  · rcases h' with ⟨rfl, hz'⟩ | ⟨m, y, rfl, e', ne', hz'⟩
    · exact absurd (hz' x (List.mem_of_getElem? e)) ne
    · rcases Nat.lt_trichotomy n m with h | h | h
      · exact absurd (hz m y h e') ne'
      · rw [h]
      · exact absurd (hz' n x h e) ne
theorem IsLd.bare {row : List Int} {k : Int} (h : IsLd (bareL row) k) : IsLd row k := by
  by_cases hg : gc row = 0
  · unfold bareL at h
    rwa [if_pos hg] at h
  · have e := bare_mul hg
    have hs := sc_ne hg
    have get : ∀ j, row[j]? = ((bareL row)[j]?).map fun x => sc row * x := fun j => by
      rw [← List.getElem?_map, ← e]
    rcases h with ⟨rfl, hz⟩ | ⟨n, x, rfl, ex, ne, hz⟩
    · refine .inl ⟨rfl, fun x hx => ?_⟩
      rw [e] at hx
      obtain ⟨y, hy, rfl⟩ := List.mem_map.mp hx
      rw [hz y hy, Int.mul_zero]
    · refine .inr ⟨n, sc row * x, rfl, by rw [get, ex]; rfl, Int.mul_ne_zero hs ne, fun j y hj ey => ?_⟩
      rw [get] at ey
      obtain ⟨z, ez, rfl⟩ := Option.map_eq_some_iff.mp ey
      rw [hz j z hj ez, Int.mul_zero]
theorem ls_get : ∀ {row : List Int} {n : Nat} {x : Int}, row[n]? = some x → x ≠ 0 → (∀ j y, n < j → row[j]? = some y → y = 0) → ls row = x
  | [], _, _, e, _, _ => by simp at e
  | y :: r, 0, x, e, ne, hz => by
    have e' : y = x := by simpa using e
    subst e'
    show (if ls r = 0 then y else ls r) = y
    rw [if_pos]
    exact ls_null fun z hz' => by
      obtain ⟨j, hj, rfl⟩ := List.mem_iff_getElem.mp hz'
      exact hz (j + 1) _ (by omega) (by rw [List.getElem?_cons_succ]; exact List.getElem?_eq_getElem hj)
  | y :: r, n + 1, x, e, ne, hz => by
    have ih := ls_get (row := r) (n := n) (by simpa using e) ne fun j z hj ez => hz (j + 1) z (by omega) (by simpa using ez)
    show (if ls r = 0 then y else ls r) = x
    rw [ih, if_neg ne]
/-- the last of those that are not 0 -/
theorem ls_filter : ∀ row : List Int, (row.filter fun x => decide (x ≠ 0)).getLast? = if ls row = 0 then none else some (ls row)
  | [] => rfl
  | y :: r => by
    have ih := ls_filter r
    show ((y :: r).filter fun x => decide (x ≠ 0)).getLast? = if (if ls r = 0 then y else ls r) = 0 then none else some (if ls r = 0 then y else ls r)
    by_cases h : ls r = 0
    · rw [if_pos h] at ih ⊢
      have e0 : (r.filter fun x => decide (x ≠ 0)) = [] := List.getLast?_eq_none_iff.mp ih
      by_cases hy : y = 0
      · rw [List.filter_cons_of_neg (by simp [hy]), e0, if_pos hy]
        rfl
      · rw [List.filter_cons_of_pos (by simp [hy]), e0, if_neg hy]
        rfl
    · rw [if_neg h] at ih ⊢
      rw [if_neg h]
      by_cases hy : y = 0
      · rw [List.filter_cons_of_neg (by simp [hy]), ih]
      · rw [List.filter_cons_of_pos (by simp [hy]), List.getLast?_cons, ih]
        rfl
end CB

set_option Elab.async false
set_option linter.all false
set_option maxRecDepth 100000
set_option maxHeartbeats 4000000
namespace LW
open PySem PySem.Spec PyProof.Rows L2 CB
def topS (i : Nat) : Stmt := PySem.Challenge.pw_curvekept_k06_rows_made_bare.main.body.getD i (.Pass ⟨0, 0, 0, 0⟩)
abbrev nm_common : List Str := ["one", "other"]
abbrev st_common : Stmt := topS 1
theorem sc_common : FnScope ["one", "other"] ["one", "other"] (defScope st_common) := ⟨rfl, rfl, rfl, by decide +kernel, rfl, by decide +kernel, by decide +kernel⟩

abbrev nm_lead : List Str := ["row", "k"]
abbrev st_lead : Stmt := topS 2
theorem sc_lead : FnScope ["row", "k"] ["row"] (defScope st_lead) := ⟨rfl, rfl, rfl, by decide +kernel, rfl, by decide +kernel, by decide +kernel⟩

abbrev nm_bare : List Str := ["row", "part", "number"]
abbrev st_bare : Stmt := topS 3
theorem sc_bare : FnScope ["row", "part", "number"] ["row"] (defScope st_bare) := ⟨rfl, rfl, rfl, by decide +kernel, rfl, by decide +kernel, by decide +kernel⟩

abbrev nm__law_deal : List Str := ["_law_script", "_law_base", "_law_some", "_law_one", "_law_number_here"]
abbrev st__law_deal : Stmt := topS 5
theorem sc__law_deal : FnScope ["_law_script", "_law_base", "_law_some", "_law_one", "_law_number_here"] ["_law_script", "_law_base"] (defScope st__law_deal) := ⟨rfl, rfl, rfl, by decide +kernel, rfl, by decide +kernel, by decide +kernel⟩

abbrev nm__law_draw : List Str := ["_law_deal_here", "_law_many", "_law_number_here", "_law_one", "_law_other"]
abbrev st__law_draw : Stmt := topS 6
theorem sc__law_draw : FnScope ["_law_deal_here", "_law_many", "_law_number_here", "_law_one", "_law_other"] ["_law_deal_here", "_law_many"] (defScope st__law_draw) := ⟨rfl, rfl, rfl, by decide +kernel, rfl, by decide +kernel, by decide +kernel⟩

abbrev nm__law_number : List Str := ["_law_deal_here", "_law_wide"]
abbrev st__law_number : Stmt := topS 7
theorem sc__law_number : FnScope ["_law_deal_here", "_law_wide"] ["_law_deal_here", "_law_wide"] (defScope st__law_number) := ⟨rfl, rfl, rfl, by decide +kernel, rfl, by decide +kernel, by decide +kernel⟩

abbrev nm__law_within : List Str := ["_law_row_here", "_law_number_here"]
abbrev st__law_within : Stmt := topS 8
theorem sc__law_within : FnScope ["_law_row_here", "_law_number_here"] ["_law_row_here"] (defScope st__law_within) := ⟨rfl, rfl, rfl, by decide +kernel, rfl, by decide +kernel, by decide +kernel⟩

abbrev nm__law_row : List Str := ["_law_deal_here", "_law_size", "_law_wide", "_law_known", "_law_form", "_law_found", "_law_j", "_law_a", "_law_b", "_law_one", "_law_other", "_law_mixed", "_law_x", "_law_y"]
abbrev st__law_row : Stmt := topS 9
theorem sc__law_row : FnScope ["_law_deal_here", "_law_size", "_law_wide", "_law_known", "_law_form", "_law_found", "_law_j", "_law_a", "_law_b", "_law_one", "_law_other", "_law_mixed", "_law_x", "_law_y"] ["_law_deal_here", "_law_size", "_law_wide", "_law_known"] (defScope st__law_row) := ⟨rfl, rfl, rfl, by decide +kernel, rfl, by decide +kernel, by decide +kernel⟩

abbrev nm__law_rows : List Str := ["_law_deal_here", "_law_most", "_law_size", "_law_found", "_law_wide", "_law_k"]
abbrev st__law_rows : Stmt := topS 10
theorem sc__law_rows : FnScope ["_law_deal_here", "_law_most", "_law_size", "_law_found", "_law_wide", "_law_k"] ["_law_deal_here", "_law_most", "_law_size"] (defScope st__law_rows) := ⟨rfl, rfl, rfl, by decide +kernel, rfl, by decide +kernel, by decide +kernel⟩

abbrev nm__law_bare : List Str := ["_law_row_here", "_law_part", "_law_number_here", "_law_one", "_law_other", "_law_some"]
abbrev st__law_bare : Stmt := topS 11
theorem sc__law_bare : FnScope ["_law_row_here", "_law_part", "_law_number_here", "_law_one", "_law_other", "_law_some"] ["_law_row_here"] (defScope st__law_bare) := ⟨rfl, rfl, rfl, by decide +kernel, rfl, by decide +kernel, by decide +kernel⟩

abbrev nm__law_lead : List Str := ["_law_row_here", "_law_k"]
abbrev st__law_lead : Stmt := topS 12
theorem sc__law_lead : FnScope ["_law_row_here", "_law_k"] ["_law_row_here"] (defScope st__law_lead) := ⟨rfl, rfl, rfl, by decide +kernel, rfl, by decide +kernel, by decide +kernel⟩

abbrev nm__law_times : List Str := ["_law_deal_here", "_law_row_here", "_law_k", "_law_found", "_law_number_here"]
abbrev st__law_times : Stmt := topS 13
theorem sc__law_times : FnScope ["_law_deal_here", "_law_row_here", "_law_k", "_law_found", "_law_number_here"] ["_law_deal_here", "_law_row_here"] (defScope st__law_times) := ⟨rfl, rfl, rfl, by decide +kernel, rfl, by decide +kernel, by decide +kernel⟩

abbrev nm_law : List Str := ["_law_script", "_law_deal_here", "_law_rows_here", "_law_k", "_law_size", "_law_row_here", "_law_due"]
abbrev st_law : Stmt := topS 14
theorem sc_law : FnScope ["_law_script", "_law_deal_here", "_law_rows_here", "_law_k", "_law_size", "_law_row_here", "_law_due"] ["_law_script"] (defScope st_law) := ⟨rfl, rfl, rfl, by decide +kernel, rfl, by decide +kernel, by decide +kernel⟩

/-! ### what the top leaves -/
structure Txt (K : PySem.W.Frag) (mg : Str → Option Value) where
  f_common : Addr
  fd_common : FuncData
  F_common : Fun K "common" "common" st_common f_common fd_common
  b_common : Binds K fd_common ["one", "other"] []
  g_common : mg "common" = some (.ref f_common)
  f_lead : Addr
  fd_lead : FuncData
  F_lead : Fun K "lead" "lead" st_lead f_lead fd_lead
  b_lead : Binds K fd_lead ["row"] []
  g_lead : mg "lead" = some (.ref f_lead)
  f_bare : Addr
  fd_bare : FuncData
  F_bare : Fun K "bare" "bare" st_bare f_bare fd_bare
  b_bare : Binds K fd_bare ["row"] []
  g_bare : mg "bare" = some (.ref f_bare)
  f__law_deal : Addr
  fd__law_deal : FuncData
  F__law_deal : Fun K "_law_deal" "_law_deal" st__law_deal f__law_deal fd__law_deal
  b__law_deal : Binds K fd__law_deal ["_law_script", "_law_base"] []
  g__law_deal : mg "_law_deal" = some (.ref f__law_deal)
  f__law_draw : Addr
  fd__law_draw : FuncData
  F__law_draw : Fun K "_law_draw" "_law_draw" st__law_draw f__law_draw fd__law_draw
  b__law_draw : Binds K fd__law_draw ["_law_deal_here", "_law_many"] []
  g__law_draw : mg "_law_draw" = some (.ref f__law_draw)
  f__law_number : Addr
  fd__law_number : FuncData
  F__law_number : Fun K "_law_number" "_law_number" st__law_number f__law_number fd__law_number
  b__law_number : Binds K fd__law_number ["_law_deal_here", "_law_wide"] []
  g__law_number : mg "_law_number" = some (.ref f__law_number)
  f__law_within : Addr
  fd__law_within : FuncData
  F__law_within : Fun K "_law_within" "_law_within" st__law_within f__law_within fd__law_within
  b__law_within : Binds K fd__law_within ["_law_row_here"] []
  g__law_within : mg "_law_within" = some (.ref f__law_within)
  f__law_row : Addr
  fd__law_row : FuncData
  F__law_row : Fun K "_law_row" "_law_row" st__law_row f__law_row fd__law_row
  b__law_row : Binds K fd__law_row ["_law_deal_here", "_law_size", "_law_wide", "_law_known"] []
  g__law_row : mg "_law_row" = some (.ref f__law_row)
  f__law_rows : Addr
  fd__law_rows : FuncData
  F__law_rows : Fun K "_law_rows" "_law_rows" st__law_rows f__law_rows fd__law_rows
  b__law_rows : Binds K fd__law_rows ["_law_deal_here", "_law_most", "_law_size"] []
  g__law_rows : mg "_law_rows" = some (.ref f__law_rows)
  f__law_bare : Addr
  fd__law_bare : FuncData
  F__law_bare : Fun K "_law_bare" "_law_bare" st__law_bare f__law_bare fd__law_bare
  b__law_bare : Binds K fd__law_bare ["_law_row_here"] []
  g__law_bare : mg "_law_bare" = some (.ref f__law_bare)
  f__law_lead : Addr
  fd__law_lead : FuncData
  F__law_lead : Fun K "_law_lead" "_law_lead" st__law_lead f__law_lead fd__law_lead
  b__law_lead : Binds K fd__law_lead ["_law_row_here"] []
  g__law_lead : mg "_law_lead" = some (.ref f__law_lead)
  f__law_times : Addr
  fd__law_times : FuncData
  F__law_times : Fun K "_law_times" "_law_times" st__law_times f__law_times fd__law_times
  b__law_times : Binds K fd__law_times ["_law_deal_here", "_law_row_here"] []
  g__law_times : mg "_law_times" = some (.ref f__law_times)
  f_law : Addr
  fd_law : FuncData
  F_law : Fun K "law" "law" st_law f_law fd_law
  b_law : Binds K fd_law ["_law_script"] []
  g_law : mg "law" = some (.ref f_law)
  z_abs : mg "abs" = none
  z_all : mg "all" = none
  z_int : mg "int" = none
  z_len : mg "len" = none
  z_list : mg "list" = none
  z_max : mg "max" = none
  z_range : mg "range" = none
  z_repr : mg "repr" = none
  z_reversed : mg "reversed" = none
  z_tuple : mg "tuple" = none
  z_zip : mg "zip" = none
section
variable {P : Program} {w : World} {K : PySem.W.Frag} {mg : Str → Option Value} {base : Heap}
/-! ### a draw -/
theorem ok_draw {k : Nat} (T : Txt K mg) : FnOk P w K mg base CX0 (k + 1) T.f__law_draw T.fd__law_draw ["_law_deal_here", "_law_many"] sp_draw := by
  refine T.F__law_draw.ok sc__law_draw (fun vs H Q E h => ?_) (fun cdv A outer s H vs Q E hr h => ?_)
  · obtain ⟨d, l, m, rfl, _⟩ := h
    rfl
  · obtain ⟨d, l, m, rfl, hD, m0, m1, q⟩ := h
    have hu := hu_of hr
    refine ⟨_, (Evl.pss_cut (ps_while PassesOwn.never (PW.pt (pw_and (pt_cmpR op_eq (pe_dget hu (pv 0) pe_str (fun _ _ => rfl)) pe_int (nomark _)) (pw_and1 (pt_cmpR op_gt (pe_callB (call_lenK (K := K)) (by rfl) T.z_len bt_len (pa_cons (pe_dget hu (pv 0) pe_str (fun _ _ => rfl)) pa_nil)) pe_int (nomark _)))))
        (pss_one (ps_dput hu (pv 0) pe_str (pe_bm0 PySem.F.plainAttrs_list PySem.F.slot_list_pop PySem.F.type_list_pop mt_pop (pe_dget hu (pv 0) pe_str (fun _ _ => rfl))) rfl)))
      (pss_cons (ps_set (i := 2) sc__law_draw.nd rfl (Or.inl rfl) (pe_dget hu (pv 0) pe_str (fun _ _ => rfl)))
      (pss_cons (ps_if (pt_cmpR op_gt (pv 2) pe_int (nomark _)) (pss_cons (ps_dput hu (pv 0) pe_str (pe_op op_fdivN (pv 2) (pv 1)) rfl)
        (pss_one (ps_ret (pe_op op_modN (pv 2) (pv 1))))) pss_nil)
      (pss_cons (ps_set (i := 3) sc__law_draw.nd rfl (Or.inl rfl) (pe_op op_modN (pe_op op_add (pe_op op_mul (pe_dget hu (pv 0) pe_str (fun _ _ => rfl)) pe_int) pe_int) pe_int))
      (pss_cons (ps_dput hu (pv 0) pe_str (pe_op op_modN (pe_op op_add (pe_op op_mul (pv 3) pe_int) pe_int) pe_int) rfl)
      (pss_cons (ps_set (i := 4) sc__law_draw.nd rfl (Or.inl rfl) (pe_op op_modN (pe_op op_mul (pe_dget hu (pv 0) pe_str (fun _ _ => rfl)) (pe_dget hu (pv 0) pe_str (fun _ _ => rfl))) pe_int))
      (pss_one (ps_ret (pe_op op_modN (pe_op op_add (pe_op op_mul (pe_op op_modN (pe_op op_mul (pv 3) (pv 3)) pe_int) pe_int) (pv 4)) (pv 1)))))))))), ?_⟩
    refine ⟨fun σ H1 => ∃ s n ls, σ = [some (.ref d), some (.int m), none, none, none] ∧ Deal H1 d l s n ls ∧ (∀ b, b ≠ d → b ≠ l → H1 b = H b), ?_, ?_⟩
    · refine ⟨fun mm σ H1 => ∃ s n ls, σ = [some (.ref d), some (.int m), none, none, none] ∧ Deal H1 d l s n ls ∧ ls.length = mm ∧ (∀ b, b ≠ d → b ≠ l → H1 b = H b), ?_, ?_⟩
      · obtain ⟨s, n, ls, h⟩ := hD
        exact ⟨_, s, n, ls, rfl, h, rfl, fun _ _ _ => rfl⟩
      · rintro mm σ H1 ⟨s, n, ls, rfl, D, el, fr⟩
        refine ⟨.ref d, rfl, d, .int n, rfl, D.g_number, rfl, _, rfl, ite2 (fun e => ?_) (fun e => ⟨s, n, ls, rfl, D, fr⟩)⟩
        refine ⟨.ref d, rfl, d, .ref l, rfl, D.g_left, l, ls.map V.int, rfl, .inl (SqL.of D.hl), _, _, rfl, rfl, _, rfl, ite2 (fun e2 => ?_) (fun e2 => ⟨s, n, ls, rfl, D, fr⟩)⟩
        refine ⟨_, fun σ' H' h => h, ?_⟩
        have hls : ls ≠ [] := fun z => by
          subst z
          exact absurd (of_decide_eq_true e2) (by simp)
        obtain ⟨y, y0, hy⟩ := D.last hls
        refine ⟨.ref d, rfl, d, .ref l, rfl, D.g_left, .inl ⟨rfl, _, SqL.of D.hl⟩, l, _, _, rfl, rfl, D.hl, hy, .ref d, rfl, d, _, rfl, (D.pop hls).p_number _, ls.length - 1, ?_, s, y, ls.dropLast, rfl, (D.pop hls).with_number (by omega), List.length_dropLast, fun b h1 h2 => ?_⟩
        · have : 0 < ls.length := List.length_pos_iff.mpr hls
          omega
        · rw [upd_ne h1, upd_ne h2]
          exact fr b h1 h2
    · rintro σ H1 ⟨s, n, ls, rfl, D, fr⟩
      refine ⟨.ref d, rfl, d, .int n, rfl, D.g_number, ?_⟩
      refine ⟨.int n, rfl, n, 0, rfl, rfl, _, rfl, ite2 (fun e => ?_) (fun e => ?_)⟩
      · have hn : 0 < n := of_decide_eq_true e
        refine ⟨.int n, rfl, .int m, rfl, n, m, rfl, rfl, ⟨by omega, by omega⟩, .ref d, rfl, d, _, rfl, D.p_number _, ?_⟩
        refine ⟨.int n, rfl, .int m, rfl, n, m, rfl, rfl, by omega, ?_⟩
        have e1 : n.fmod m = n % m := Int.fmod_eq_emod_of_nonneg n (by omega)
        have e2 : n.fdiv m = n / m := Int.fdiv_eq_ediv_of_nonneg n (by omega)
        show Q (.int (n.fmod m)) (upd H1 d (.dK (dealD s (n.fdiv m) l)))
        rw [e1, e2]
        exact q _ _ (Int.emod_nonneg _ (by omega)) (Int.emod_lt_of_pos _ m0) ⟨_, _, _, D.with_number (Int.ediv_nonneg (by omega) (by omega))⟩ (Kp.of_draw fun b h1 h2 => by rw [upd_ne h1]; exact fr b h1 h2)
      · have fm : ∀ x k : Int, 0 < k → 0 ≤ x.fmod k ∧ x.fmod k < k := fun x k hk => by
          rw [Int.fmod_eq_emod_of_nonneg x (by omega)]
          exact ⟨Int.emod_nonneg _ (by omega), Int.emod_lt_of_pos _ hk⟩
        have z0 := D.s0
        have z1 := D.s1
        have b1 := fm (s * 48271 + 7919) 2147483647 (by omega)
        obtain ⟨one, hone⟩ : ∃ x, x = (s * 48271 + 7919).fmod 2147483647 := ⟨_, rfl⟩
        rw [← hone] at b1
        refine ⟨.ref d, rfl, d, .int s, rfl, D.g_seed, _, _, rfl, rfl, .inl ⟨by omega, by omega⟩, _, _, rfl, rfl, _, _, rfl, rfl, by dsimp only; decide, ?_⟩
        have b2 := fm (one * 40692 + 104729) 2147483399 (by omega)
        refine ⟨.int one, by rw [hone]; rfl, _, _, rfl, rfl, .inl ⟨by omega, by omega⟩, _, _, rfl, rfl, _, _, rfl, rfl, by dsimp only; decide, .ref d, rfl, d, _, rfl, D.p_seed _, ?_⟩
        have D2 := D.with_seed (m := (one * 40692 + 104729).fmod 2147483399) b2.1 (by omega)
        have b4 := fm (one * one) 2147483629 (by omega)
        refine ⟨.ref d, rfl, d, _, rfl, D2.g_seed, .ref d, rfl, d, _, rfl, D2.g_seed, _, _, rfl, rfl, .inl ⟨by omega, by omega⟩, _, _, rfl, rfl, by dsimp only; decide, ?_⟩
        refine ⟨.int one, by rw [hone]; rfl, .int one, by rw [hone]; rfl, _, _, rfl, rfl, .inl ⟨by omega, by omega⟩, _, _, rfl, rfl, by dsimp only; decide, _, _, rfl, rfl, .inl ⟨by omega, by omega⟩, _, rfl, _, _, rfl, rfl, .int m, rfl, _, _, rfl, rfl, by dsimp only; omega, ?_⟩
        exact q _ _ (fm _ m m0).1 (fm _ m m0).2 ⟨_, _, _, D2⟩ (Kp.of_draw fun b h1 h2 => by rw [upd_ne h1]; exact fr b h1 h2)

/-! ### the deal -/
theorem ok_deal {k : Nat} (T : Txt K mg) : FnOk P w K mg base CX0 (k + 1) T.f__law_deal T.fd__law_deal ["_law_script", "_law_base"] (sp_deal K) := by
  refine T.F__law_deal.ok sc__law_deal (fun vs H Q E h => ?_) (fun cdv A outer s H vs Q E hr h => ?_)
  · obtain ⟨a, ns, b, rfl, _⟩ := h
    rfl
  · obtain ⟨a, ns, b, rfl, hS, hlen, b0, b1, q⟩ := h
    refine ⟨_, (pss_cons (ps_setLc (i := 2) (own := [("_law_one", 3)]) (g := gName 3) (tt := tYes) rfl sc__law_deal.nd rfl rfl (sw_true rfl rfl rfl (by decide +kernel)) (pi_listK (K := K) (pe_slice (sl_listK (K := K)) (pv 0) (po_some (pv 1)) (po_some pe_int))) (blkOk_by (own := [("_law_one", 3)]) (N := nm__law_deal) (sc := defScope st__law_deal) (by decide +kernel)) (fun _ _ _ _ _ => (pg_name (i := 3) sc__law_deal.nd rfl (Or.inl rfl))) (fun _ _ _ _ _ => pts_nil) (fun _ _ _ _ _ => (pe_callB (call_max2 rfl) (by rfl) T.z_max bt_max (pa_cons (pv 3) (pa_cons (pe_op op_sub pe_int (pv 3)) pa_nil)))))
      (pss_cons (ps_set (i := 4) sc__law_deal.nd rfl (Or.inl rfl) (pe_op op_add pe_int (pv 1)))
      (Evl.pss_cut (ps_for PassesOwn.never rfl (pi_listK (K := K) (pv 2)) (pg_name (i := 3) sc__law_deal.nd rfl (Or.inl rfl))
        (pss_one (ps_set (i := 4) sc__law_deal.nd rfl (Or.inl rfl) (pe_op op_modN (pe_op op_add (pe_op op_mul (pv 4) pe_int) (pe_op op_modN (pv 3) pe_int)) pe_int))))
      (pss_one (ps_ret (pe_disp (pps_cons pe_str (pv 4) (pps_cons pe_str pe_int (pps_cons pe_str (pe_listRev (K := K) rfl (by rfl) T.z_list (by rfl) T.z_reversed (pe_lc (own := [("_law_one", 3)]) (g := gName 3) rfl sc__law_deal.nd (pi_listK (K := K) (pv 2)) (blkOk_by (own := [("_law_one", 3)]) (N := nm__law_deal) (sc := defScope st__law_deal) (by decide +kernel)) (fun _ _ _ _ _ => (pg_name (i := 3) sc__law_deal.nd rfl (Or.inl rfl))) (fun _ _ _ _ _ => (pts_one (pt_cmpR op_ge (pv 3) (pe_op op_pow pe_int pe_int) (nomark _)))) (fun _ _ _ _ _ => (pv 3)))) pps_nil))) (by rfl) (by rfl) (fun z => by cases z) (by decide))))))), ?_⟩
    refine ⟨.ref a, rfl, .int b, rfl, b, rfl, 63, rfl, a, _, rfl, hS, fun p np => ⟨p, rfl, ⟨_, SqL.of upd_same⟩, fun D nD => ?_⟩⟩
    obtain ⟨ms, ems, lms⟩ := cut_ints ns (some b) (some 63)
    rw [ems] at nD ⊢
    have x0 : Ex H (upd H p (.lst (ms.map V.int))) := Evl.Ex.new np
    have hDp : D ≠ p := fun e => by rw [e, upd_same] at nD; cases nD
    have nDH : H D = none := Evl.fresh_back x0 nD
    refine lc_list (K := K) (a := p) (xs := ms.map V.int) (fun i H' => Ex H H' ∧ H' p = some (.lst (ms.map V.int)) ∧ ∃ bs : List Int, bs.length = i ∧ H' D = some (.lst (bs.map V.int))) ⟨x0.trans (Evl.Ex.new nD), by rw [upd_ne hDp.symm, upd_same], [], rfl, upd_same⟩ (fun i H' _ h => SqL.of h.2.1) (fun i x H' hx h => ?_) (fun H' h => ?_)
    · obtain ⟨x1, hp, bs, el, hb⟩ := h
      obtain ⟨z, rfl⟩ : ∃ z, x = .int z := by
        rw [List.getElem?_map] at hx
        obtain ⟨z, _, e⟩ := Option.map_eq_some_iff.mp hx
        exact ⟨z, e.symm⟩
      have hi : i < ms.length := by
        have := (List.getElem?_eq_some_iff.mp hx).1
        rw [List.length_map] at this
        exact this
      refine ⟨rfl, .int z, rfl, _, rfl, _, _, rfl, rfl, _, _, rfl, bs.map V.int, hb, small1000 (by rw [List.length_map]; omega), Evl.Ex.mut x1 nDH, by rw [upd_ne hDp.symm]; exact hp, bs ++ [_], by rw [List.length_append, el]; rfl, by rw [upd_same, List.map_append]; rfl⟩
    · obtain ⟨x1, hp, bs, el, hb⟩ := h
      rw [List.length_map] at el
      refine ⟨.int b, rfl, _, _, rfl, rfl, ?_⟩
      refine ⟨fun σ H3 => ∃ n, σ = [some (.ref a), some (.int b), some (.ref D), σ.getD 3 none, some (.int n)] ∧ 0 ≤ n ∧ n < 2147483648 ∧ H3 = H', ?_, ?_⟩
      · refine ⟨.ref D, rfl, D, rfl, ⟨_, SqL.of hb⟩, for_list (K := K) (a := D) (xs := bs.map V.int) (fun i σ H3 => ∃ n, σ = [some (.ref a), some (.int b), some (.ref D), σ.getD 3 none, some (.int n)] ∧ 0 ≤ n ∧ n < 2147483648 ∧ H3 = H') ⟨7919 + b, rfl, by omega, by omega, rfl⟩ (fun i σ H3 _ h => ?_) (fun i x σ H3 hx h => ?_) (fun σ H3 h => h)⟩
        · obtain ⟨n, _, _, _, rfl⟩ := h
          exact SqL.of hb
        · obtain ⟨n, e, n0, n1, rfl⟩ := h
          generalize σ.getD 3 none = y at e
          subst e
          obtain ⟨z, rfl⟩ : ∃ z, x = .int z := by
            rw [List.getElem?_map] at hx
            obtain ⟨z, _, e⟩ := Option.map_eq_some_iff.mp hx
            exact ⟨z, e.symm⟩
          refine ⟨.int n, rfl, _, _, rfl, rfl, .inl ⟨by omega, by omega⟩, .int z, rfl, _, _, rfl, rfl, by dsimp only; decide, _, _, rfl, rfl, _, _, rfl, rfl, by dsimp only; decide, ?_⟩
          exact ⟨_, rfl, (fmod_in _ _ (by decide)).1, Int.lt_trans (fmod_in _ 2147483647 (by decide)).2 (by decide), rfl⟩
      · rintro σ H3 ⟨n, e, n0, n1, rfl⟩
        generalize σ.getD 3 none = y at e
        subst e
        -- the dict
        intro d nd
        have ndH : H d = none := Evl.fresh_back x1 nd
        have hdD : D ≠ d := ne_of_none hb nd
        refine ⟨.int n, rfl, ?_⟩
        refine ⟨.ref D, rfl, D, rfl, ⟨_, SqL.of (by rw [upd_ne hdD]; exact hb)⟩, fun D2 nD2 => ?_⟩
        have hdD2 : D2 ≠ d := fun e => by rw [e, upd_same] at nD2; cases nD2
        have nD2H : H3 D2 = none := by rw [upd_ne hdD2] at nD2; exact nD2
        have hDD2 : D ≠ D2 := ne_of_none hb nD2H
        refine lc_list (K := K) (a := D) (xs := bs.map V.int) (fun i H' => Ex H H' ∧ H' D = some (.lst (bs.map V.int)) ∧ H' d = some (.dK []) ∧ ∃ cs : List Int, cs.length ≤ i ∧ (∀ x ∈ cs, 0 < x) ∧ H' D2 = some (.lst (cs.map V.int))) ⟨Evl.Ex.mut (Evl.Ex.mut x1 ndH) (Evl.fresh_back x1 nD2H), by rw [upd_ne hDD2, upd_ne hdD]; exact hb, by rw [upd_ne hdD2.symm, upd_same], [], by simp, fun x hx => by simp at hx, upd_same⟩ (fun i H' _ h => SqL.of h.2.1) (fun i x H' hx h => ?_) (fun H' h => ?_)
        · obtain ⟨x2, hb2, hd2, cs, lc, pc, hc⟩ := h
          obtain ⟨z, rfl⟩ : ∃ z, x = .int z := by
            rw [List.getElem?_map] at hx
            obtain ⟨z, _, e⟩ := Option.map_eq_some_iff.mp hx
            exact ⟨z, e.symm⟩
          have hi : i < bs.length := by
            have := (List.getElem?_eq_some_iff.mp hx).1
            rw [List.length_map] at this
            exact this
          refine ⟨rfl, .int z, rfl, _, _, rfl, rfl, ⟨by decide, by decide, by decide⟩, _, _, rfl, rfl, _, rfl, ite2 (fun e => ?_) (fun e => ?_)⟩
          · have hz : (10 : Int) ^ (18 : Int).toNat ≤ z := of_decide_eq_true e
            have hz0 : 0 < z := Int.lt_of_lt_of_le (by decide) hz
            refine ⟨.int z, rfl, cs.map V.int, hc, small1000 (by rw [List.length_map]; omega), Evl.Ex.mut x2 (Evl.fresh_back x1 nD2H), by rw [upd_ne hDD2]; exact hb2, by rw [upd_ne hdD2.symm]; exact hd2, cs ++ [z], by rw [List.length_append]; show cs.length + 1 ≤ i + 1; omega, fun x hx => ?_, by rw [upd_same, List.map_append]; rfl⟩
            rcases List.mem_append.mp hx with h | h
            · exact pc x h
            · rw [List.mem_singleton.mp h]; exact hz0
          · exact ⟨x2, hb2, hd2, cs, by omega, pc, hc⟩
        · obtain ⟨x2, hb2, hd2, cs, lc, pc, hc⟩ := h
          rw [List.length_map] at lc
          refine ⟨D2, _, rfl, SqL.of hc, fun l nl => ?_⟩
          have hdl : d ≠ l := ne_of_none hd2 nl
          refine ⟨by rw [upd_ne hdl]; exact hd2, dealD n 0 l, rfl, by show 3 ≤ 15; decide, ?_⟩
          rw [merge_deal]
          refine q d l _ (Evl.Ex.mut (Evl.Ex.mut x2 (Evl.fresh_back x2 nl)) ndH) ndH (Evl.fresh_back x2 nl) ⟨n, 0, cs.reverse, upd_same, ?_, n0, n1, by omega, fun x hx => pc x (List.mem_reverse.mp hx), by rw [List.length_reverse]; omega⟩
          rw [upd_ne hdl.symm, upd_same, List.map_reverse]

/-! ### common, lead, bare -/
def sp_common : Sp := fun vs H Q _ => ∃ a b : Nat, vs = [.int (a : Int), .int (b : Int)] ∧ Q (.int (Nat.gcd a b : Nat)) H
theorem fmod_nat (x y : Nat) : (x : Int).fmod (y : Int) = ((x % y : Nat) : Int) := by
  rw [Int.fmod_eq_emod_of_nonneg _ (by omega)]
  exact (Int.natCast_emod x y).symm
theorem gcd_step {x y g : Nat} (h : Nat.gcd x y = g) : Nat.gcd y (x % y) = g := by
  rw [← h, Nat.gcd_comm x y, Nat.gcd_rec y x, Nat.gcd_comm]
theorem ok_common {k : Nat} (T : Txt K mg) : FnOk P w K mg base CX0 (k + 1) T.f_common T.fd_common ["one", "other"] sp_common := by
  refine T.F_common.ok sc_common (fun vs H Q E h => ?_) (fun cdv A outer s H vs Q E hr h => ?_)
  · obtain ⟨a, b, rfl, _⟩ := h
    rfl
  · obtain ⟨a, b, rfl, q⟩ := h
    refine ⟨_, (Evl.pss_cut (ps_while PassesOwn.never (pt_cmpR op_gt (pv 1) pe_int (nomark _))
        (pss_one (ps_par (i := 0) (j := 1) (by rfl) sc_common.nd rfl rfl (by decide) rfl rfl (pa_cons (pv 1) (pa_cons (pe_op op_modN (pv 0) (pv 1)) pa_nil)) (by rfl))))
      (pss_one (ps_ret (pv 0)))), ?_⟩
    refine ⟨fun σ H1 => σ[0]? = some (some (.int (Nat.gcd a b : Nat))) ∧ H1 = H, ?_, ?_⟩
    · refine ⟨fun m σ H1 => ∃ x y : Nat, σ = [some (.int (x : Int)), some (.int (y : Int))] ∧ Nat.gcd x y = Nat.gcd a b ∧ y = m ∧ H1 = H, ⟨b, a, b, rfl, rfl, rfl, rfl⟩, ?_⟩
      rintro m σ H1 ⟨x, y, rfl, hg, rfl, rfl⟩
      refine ⟨.int (y : Int), rfl, _, _, rfl, rfl, _, rfl, ite2 (fun e => ?_) (fun e => ?_)⟩
      · have hy : 0 < y := by have := of_decide_eq_true e; omega
        refine ⟨_, fun σ' H' h => h, ?_⟩
        refine ⟨.int (y : Int), rfl, .int (x : Int), rfl, .int (y : Int), rfl, _, _, rfl, rfl, by omega, _, _, rfl, x % y, Nat.mod_lt _ hy, y, x % y, ?_, gcd_step hg, rfl, rfl⟩
        show [some (V.int (y : Int)), some (V.int ((x : Int).fmod (y : Int)))] = _
        rw [fmod_nat]
      · have hy : y = 0 := by
          by_cases h : y = 0
          · exact h
          · exact absurd (decide_eq_true (show (y : Int) > 0 by omega)) e
        subst hy
        rw [Nat.gcd_zero_right] at hg
        rw [← hg]
        exact ⟨rfl, rfl⟩
    · rintro σ H1 ⟨e, rfl⟩
      exact ⟨_, e, q⟩
def sp_lead (K : PySem.W.Frag) : Sp := fun vs H Q _ => ∃ (v : V) (row : List Int) (F : Hp), vs = [v] ∧ Ex F H ∧ Dp K F v (ti row) ∧ row.length ≤ 1000 ∧ ∀ k, IsLd row k → Q (.int k) H
theorem ok_lead {k : Nat} (T : Txt K mg) : FnOk P w K mg base CX0 (k + 1) T.f_lead T.fd_lead ["row"] (sp_lead K) := by
  refine T.F_lead.ok sc_lead (fun vs H Q E h => ?_) (fun cdv A outer s H vs Q E hr h => ?_)
  · obtain ⟨v, row, F, rfl, _⟩ := h
    rfl
  · obtain ⟨v, row, F, rfl, hF, hv, hl, q⟩ := h
    obtain ⟨a, rfl, ha⟩ := hv.ti_inv
    have haH := ex_T hF ha
    refine ⟨_, (Evl.pss_cut (ps_for PassesOwn.never rfl (pi_range3 (by rfl) T.z_range (pa_cons (pe_op op_sub (pe_callB (call_lenK (K := K)) (by rfl) T.z_len bt_len (pa_cons (pv 0) pa_nil)) pe_int) (pa_cons (pe_un un_neg pe_int) (pa_cons (pe_un un_neg pe_int) pa_nil)))) (pg_name (i := 1) sc_lead.nd rfl (Or.inl rfl))
        (pss_one (ps_if (pt_cmpR op_ne (pe_ix (ix_tupK (K := K)) (pv 0) (pv 1) (fun _ _ => rfl)) pe_int (nomark _)) (pss_one (ps_ret (pv 1))) pss_nil)))
      (pss_one (ps_ret (pe_un un_neg pe_int)))), ?_⟩
    refine ⟨fun σ H1 => H1 = H ∧ ∀ x ∈ row, x = 0, ?_, ?_⟩
    · have e0 : ((row.map V.int).length : Int) - 1 - -1 = row.length := by rw [List.length_map]; omega
      refine ⟨.ref a, rfl, a, _, rfl, .inr haH, _, _, rfl, rfl, _, rfl, _, rfl, _, _, _, row.length, rfl, ?_, for_rangeC (lo := ((row.map V.int).length : Int) - 1) (c := -1) (n := row.length) (fun i σ H1 => (∃ y1, σ = [some (.ref a), y1]) ∧ H1 = H ∧ ∀ (j : Nat) (x : Int), row.length - i ≤ j → row[j]? = some x → x = 0) ⟨⟨_, rfl⟩, rfl, fun j x hj ex => ?_⟩ (fun i σ H1 hi h => ?_) (fun σ H1 h => ?_)⟩
      · have := RgC.neg (i := ((row.map V.int).length : Int) - 1) (j := -1) (by omega) (by rw [List.length_map]; omega) (by decide) (by decide)
        rw [e0, Int.toNat_natCast] at this
        exact this
      · have := (List.getElem?_eq_some_iff.mp ex).1
        omega
      · obtain ⟨⟨y1, rfl⟩, rfl, hz⟩ := h
        have ek : ((row.map V.int).length : Int) - 1 + (i : Nat) * -1 = ((row.length - 1 - i : Nat) : Int) := by rw [List.length_map]; omega
        have hn : row.length - 1 - i < row.length := by omega
        have er : row[row.length - 1 - i]? = some row[row.length - 1 - i] := List.getElem?_eq_getElem hn
        have eat : atI (row.map V.int) (((row.map V.int).length : Int) - 1 + (i : Nat) * -1) = some (.int row[row.length - 1 - i]) := by
          rw [ek]
          exact atI_nat (by rw [List.getElem?_map, er]; rfl)
        refine ⟨.ref a, rfl, _, rfl, a, _, _, _, rfl, rfl, haH, eat, rfl, _, rfl, ite2 (fun e => ?_) (fun e => ?_)⟩
        · refine ⟨_, rfl, q _ (.inr ⟨row.length - 1 - i, row[row.length - 1 - i], ek, er, fun h0 => ?_, fun j y hj ey => hz j y (by omega) ey⟩)⟩
          rw [h0, decide_eq_true rfl] at e
          exact absurd e (by decide)
        · refine ⟨⟨_, rfl⟩, rfl, fun j x hj ex => ?_⟩
          by_cases hj2 : row.length - i ≤ j
          · exact hz j x hj2 ex
          · have : j = row.length - 1 - i := by omega
            subst this
            rw [er] at ex
            cases ex
            by_cases h0 : row[row.length - 1 - i] = 0
            · exact h0
            · exfalso
              apply e
              rw [decide_eq_false (fun hh : V.int row[row.length - 1 - i] = V.int 0 => h0 (V.int.inj hh))]
              rfl
      · obtain ⟨_, rfl, hz⟩ := h
        refine ⟨rfl, fun x hx => ?_⟩
        obtain ⟨j, hj, rfl⟩ := List.mem_iff_getElem.mp hx
        exact hz j _ (by omega) (List.getElem?_eq_getElem hj)
    · rintro σ H1 ⟨rfl, hz⟩
      exact ⟨_, rfl, q _ (.inl ⟨rfl, hz⟩)⟩
abbrev Mil (r : List Int) : Prop := ∀ x ∈ r, -1000000 ≤ x ∧ x ≤ 1000000
theorem gc_mil {row : List Int} (h : Mil row) : gc row ≤ 1000000 := by
  by_cases h0 : ls row = 0
  · have : gc row = 0 := Nat.eq_zero_of_not_pos fun hp => by
      have : ∀ (r : List Int), (∀ x ∈ r, x = 0) → gcF 0 r = 0 := fun r => by
        induction r with
        | nil => intro _; rfl
        | cons y r ih =>
          intro hz
          show gcF (Nat.gcd 0 y.natAbs) r = 0
          rw [hz y List.mem_cons_self]
          exact ih fun x hx => hz x (List.mem_cons_of_mem _ hx)
      have := this row (ls_zero h0)
      unfold gc at hp
      omega
    omega
  · have h1 := (gcF_dvd row 0).2 _ (ls_mem h0)
    have h2 := Nat.le_of_dvd (by omega) h1
    have h3 := h _ (ls_mem h0)
    unfold gc
    omega
theorem abs_nat (x : Int) : (if x < 0 then -x else x) = (x.natAbs : Int) := by
  split <;> omega
def sp_bare (K : PySem.W.Frag) : Sp := fun vs H Q _ => ∃ (v : V) (row : List Int) (F : Hp), vs = [v] ∧ Ex F H ∧ Dp K F v (ti row) ∧ row.length ≤ 1000 ∧ Mil row ∧ RetD K F H Q (ti (bareL row))
theorem ok_bare {k : Nat} (T : Txt K mg) : FnOk P w K mg base CX0 (k + 2) T.f_bare T.fd_bare ["row"] (sp_bare K) := by
  have G_common : FnOk P w K mg base CX0 1 T.f_common T.fd_common ["one", "other"] sp_common := ok_common T
  have G_lead : FnOk P w K mg base CX0 1 T.f_lead T.fd_lead ["row"] (sp_lead K) := ok_lead T
  refine T.F_bare.ok sc_bare (fun vs H Q E h => ?_) (fun cdv A outer s H vs Q E hr h => ?_)
  · obtain ⟨v, row, F, rfl, _⟩ := h
    rfl
  · obtain ⟨v, row, F, rfl, hF, hv, hl, hmil, q⟩ := h
    obtain ⟨a, rfl, ha⟩ := hv.ti_inv
    have haH := ex_T hF ha
    refine ⟨_, (pss_cons (ps_set (i := 1) sc_bare.nd rfl (Or.inr rfl) pe_int)
      (Evl.pss_cut (ps_for PassesOwn.never rfl (pi_tupK (K := K) (pv 0)) (pg_name (i := 2) sc_bare.nd rfl (Or.inl rfl))
        (pss_one (ps_set (i := 1) sc_bare.nd rfl (Or.inr rfl) (pe_call G_common (hr.mono (by omega)) (by rfl) T.g_common T.F_common.kp T.b_common .nil pass0 (pa_cons (pv 1) (pa_cons (pe_callB call_abs (by rfl) T.z_abs bt_abs (pa_cons (pv 2) pa_nil)) pa_nil))))))
      (pss_cons (ps_if (pt_cmpR op_eq (pv 1) pe_int (nomark _)) (pss_one (ps_ret (pe_callTy (call_tupleK (K := K)) (by rfl) T.z_tuple bt_tuple (pa_cons (pv 0) pa_nil)))) pss_nil)
      (Evl.pss_cut (ps_if (pt_cmpR op_lt (pe_ix (ix_tupK (K := K)) (pv 0) (pe_call G_lead (hr.mono (by omega)) (by rfl) T.g_lead T.F_lead.kp T.b_lead .nil pass0 (pa_cons (pv 0) pa_nil)) (fun _ _ => rfl)) pe_int (nomark _)) (pss_one (ps_set (i := 1) sc_bare.nd rfl (Or.inr rfl) (pe_op op_sub pe_int (pv 1)))) pss_nil)
      (pss_one (ps_ret (pe_callTy (call_tupleK (K := K)) (by rfl) T.z_tuple bt_tuple (pa_cons (pe_lc (own := [("number", 2)]) (g := gName 2) (tt := tYes) rfl sc_bare.nd (pi_tupK (K := K) (pv 0)) (blkOk_by (own := [("number", 2)]) (N := nm_bare) (sc := defScope st_bare) (by decide +kernel)) (fun _ _ _ _ _ => (pg_name (i := 2) sc_bare.nd rfl (Or.inl rfl))) (fun _ _ _ _ _ => pts_nil) (fun _ _ _ _ _ => (pe_op op_fdivN (pv 2) (pv 1)))) pa_nil)))))))), ?_⟩
    refine ⟨fun σ H1 => (∃ y2, σ = [some (.ref a), some (.int (gc row : Int)), y2]) ∧ H1 = H, ?_, ?_⟩
    · refine ⟨.ref a, rfl, a, rfl, ⟨_, haH⟩, for_tup (K := K) (a := a) (xs := row.map V.int) (fun i σ H1 => (∃ y2, σ = [some (.ref a), some (.int (gcF 0 (row.take i) : Int)), y2]) ∧ H1 = H) ⟨⟨_, rfl⟩, rfl⟩ (fun i σ H1 _ h => h.2 ▸ haH) (fun i x σ H1 hx h => ?_) (fun σ H1 h => ?_)⟩
      · obtain ⟨⟨y2, rfl⟩, rfl⟩ := h
        obtain ⟨z, ez, rfl⟩ := int_get hx
        refine ⟨_, rfl, .int z, rfl, z, rfl, ?_⟩
        rw [abs_nat]
        refine ⟨_, _, rfl, ⟨some (.int z), ?_⟩, rfl⟩
        rw [List.take_add_one, ez, Option.toList_some, gcF_snoc]
        rfl
      · obtain ⟨⟨y2, rfl⟩, rfl⟩ := h
        rw [List.length_map, List.take_of_length_le (Nat.le_refl _)]
        exact ⟨⟨_, rfl⟩, rfl⟩
    · rintro σ H1 ⟨⟨y2, rfl⟩, rfl⟩
      refine ⟨_, rfl, rfl, _, rfl, ite2 (fun e => ?_) (fun e => ?_)⟩
      · have h0 : gc row = 0 := by
          have := of_decide_eq_true e
          injection this with this
          omega
        refine ⟨.ref a, rfl, a, _, rfl, .inr ⟨haH, q _ F H1 (Gr.refl hF) ?_⟩⟩
        unfold bareL
        rw [if_pos h0]
        exact hv
      · have h0 : gc row ≠ 0 := fun h => e (by rw [h]; exact decide_eq_true rfl)
        have hls : ls row ≠ 0 := fun h => h0 (by
          have hz := ls_zero h
          have e2 : row = (row.map fun x => (0 : Int) * x) := by
            conv => lhs; rw [← List.map_id row]
            exact List.map_congr_left fun x hx => by rw [hz x hx]; rfl
          rw [e2, gc_mul]
          exact Nat.zero_mul _)
        have hgm := gc_mil hmil
        refine ⟨fun σ H2 => (∃ y2, σ = [some (.ref a), some (.int (sc row)), y2]) ∧ H2 = H1, ?_, ?_⟩
        · refine ⟨.ref a, rfl, .ref a, rfl, .ref a, row, F, rfl, hF, hv, hl, fun k hk => ?_⟩
          rcases hk with ⟨_, hz⟩ | ⟨n, x, rfl, ex, nx, hz⟩
          · exact absurd (ls_null hz) hls
          · have els := ls_get ex nx hz
            refine ⟨a, _, _, _, rfl, rfl, haH, atI_nat (by rw [List.getElem?_map, ex]; rfl), _, _, rfl, rfl, _, rfl, ite2 (fun e2 => ?_) (fun e2 => ?_)⟩
            · refine ⟨_, rfl, _, _, rfl, rfl, ⟨y2, ?_⟩, rfl⟩
              have : ls row < 0 := by rw [els]; exact of_decide_eq_true e2
              unfold sc
              rw [if_pos this]
              rfl
            · refine ⟨⟨y2, ?_⟩, rfl⟩
              have : ¬ ls row < 0 := fun h => e2 (decide_eq_true (by rw [els] at h; exact h))
              unfold sc
              rw [if_neg this]
        · rintro σ H2 ⟨⟨y2, rfl⟩, rfl⟩
          refine ⟨.ref a, rfl, a, rfl, ⟨_, haH⟩, fun D nD => ?_⟩
          have nDF : F D = none := sub_none hF nD
          refine lc_it (walk_tup (K := K) (a := a) (xs := row.map V.int)) (fun i H' => Gr NoS F H2 F H' ∧ H' D = some (.lst (((bareL row).take i).map V.int))) ⟨(Gr.refl hF).newm nD, upd_same⟩ (fun i H' _ h => ex_T h.1.sub ha) (fun i x H' H'' hi h y => ?_) (fun H' h => ?_)
          · obtain ⟨g, hD⟩ := h
            obtain ⟨rfl, hx⟩ := y
            obtain ⟨z, ez, rfl⟩ := int_get hx
            have eb : (bareL row)[i]? = some (z.fdiv (sc row)) := by
              unfold bareL
              rw [if_neg h0, List.getElem?_map, ez]
              rfl
            rw [List.length_map] at hi
            refine ⟨rfl, .int z, rfl, _, rfl, _, _, rfl, rfl, ⟨sc_ne h0, by rw [sc_abs]; omega⟩, _, hD, ?_, g.mut nD nDF, ?_⟩
            · rw [List.length_map, List.length_take]
              exact small1000 (by omega)
            · rw [upd_same, List.take_add_one, eb, List.map_append]
              rfl
          · obtain ⟨g, hD⟩ := h
            have hbl : (bareL row).length = row.length := by
              unfold bareL
              rw [if_neg h0, List.length_map]
            rw [List.length_map, List.take_of_length_le (by omega)] at hD
            exact q.tuple g hD (DpAll.ints _)

/-! ### numbers and rows drawn -/
def sp_numberW : Sp := fun vs H Q _ => ∃ (d l : Addr) (wd : Int), vs = [.ref d, .int wd] ∧ IsDeal H d l ∧ 0 ≤ wd ∧ wd ≤ 1000000 ∧ ∀ (x : Int) (H' : Hp), -1000000 ≤ x → x ≤ 1000000 → IsDeal H' d l → Kp d l H H' → Q (.int x) H'
theorem ok_numberW {k : Nat} (T : Txt K mg) : FnOk P w K mg base CX0 (k + 2) T.f__law_number T.fd__law_number ["_law_deal_here", "_law_wide"] sp_numberW := by
  have G__law_draw : FnOk P w K mg base CX0 1 T.f__law_draw T.fd__law_draw ["_law_deal_here", "_law_many"] sp_draw := ok_draw T
  refine T.F__law_number.ok sc__law_number (fun vs H Q E h => ?_) (fun cdv A outer s H vs Q E hr h => ?_)
  · obtain ⟨d, l, wd, rfl, _⟩ := h
    rfl
  · obtain ⟨d, l, wd, rfl, D, w0, w1, q⟩ := h
    refine ⟨_, (pss_one (ps_ret (pe_op op_mul (pe_op op_sub (pe_call G__law_draw (hr.mono (by omega)) (by rfl) T.g__law_draw T.F__law_draw.kp T.b__law_draw .nil pass0 (pa_cons (pv 0) (pa_cons (pe_op op_add (pe_op op_mul pe_int (pv 1)) pe_int) pa_nil))) (pv 1)) (pe_callTy call_int1 (by rfl) T.z_int bt_int (pa_cons (pe_cmpR op_gt (pe_call G__law_draw (hr.mono (by omega)) (by rfl) T.g__law_draw T.F__law_draw.kp T.b__law_draw .nil pass0 (pa_cons (pv 0) (pa_cons pe_int pa_nil))) pe_int (nomark _)) pa_nil))))), ?_⟩
    refine ⟨.ref d, rfl, .int wd, rfl, _, _, rfl, rfl, .inl ⟨by decide, by decide⟩, _, _, rfl, rfl, d, l, _, rfl, D, by omega, by omega, fun r H1 r0 r1 D1 k1 => ?_⟩
    refine ⟨.int wd, rfl, _, _, rfl, rfl, .ref d, rfl, d, l, 3, rfl, D1, by decide, by decide, fun r2 H2 s0 s1 D2 k2 => ?_⟩
    refine ⟨_, _, rfl, rfl, .inr ⟨_, rfl, _, _, rfl, rfl, .inl ⟨by omega, by omega⟩, ?_⟩⟩
    have kk := k1.trans k2
    by_cases hc : decide (r2 > 0) = true
    · rw [if_pos hc]
      exact q _ _ (by omega) (by omega) D2 kk
    · rw [if_neg hc]
      exact q _ _ (by omega) (by omega) D2 kk
/-- whether all are within a million -/
def sp_within (K : PySem.W.Frag) : Sp := fun vs H Q _ => ∃ (v : V) (row : List Int) (F : Hp), vs = [v] ∧ Ex F H ∧ Dp K F v (ti row) ∧ row.length ≤ 1000 ∧ ∀ b H', Ex H H' → (b = true → Mil row) → Q (.bl b) H'
theorem ok_within {k : Nat} (T : Txt K mg) : FnOk P w K mg base CX0 (k + 1) T.f__law_within T.fd__law_within ["_law_row_here"] (sp_within K) := by
  refine T.F__law_within.ok sc__law_within (fun vs H Q E h => ?_) (fun cdv A outer s H vs Q E hr h => ?_)
  · obtain ⟨v, row, F, rfl, _⟩ := h
    rfl
  · obtain ⟨v, row, F, rfl, hF, hv, hl, q⟩ := h
    obtain ⟨a, rfl, ha⟩ := hv.ti_inv
    have haH := ex_T hF ha
    refine ⟨_, (pss_one (ps_ret (pe_callB (cr_allK (K := K) rfl) (by rfl) T.z_all bt_all (pa_cons (pe_lc (own := [("_law_number_here", 1)]) (g := gName 1) (tt := tYes) rfl sc__law_within.nd (pi_tupK (K := K) (pv 0)) (blkOk_by (own := [("_law_number_here", 1)]) (N := nm__law_within) (sc := defScope st__law_within) (by decide +kernel)) (fun _ _ _ _ _ => (pg_name (i := 1) sc__law_within.nd rfl (Or.inl rfl))) (fun _ _ _ _ _ => pts_nil) (fun _ _ _ _ _ => (pe_cmpR op_le (pe_callB call_abs (by rfl) T.z_abs bt_abs (pa_cons (pv 1) pa_nil)) (pe_op op_pow pe_int pe_int) (nomark _)))) pa_nil)))), ?_⟩
    refine ⟨.ref a, rfl, a, rfl, ⟨_, haH⟩, fun D nD => ?_⟩
    refine lc_it (walk_tup (K := K) (a := a) (xs := row.map V.int)) (fun i H' => Ex H H' ∧ H' D = some (.lst (((row.take i).map fun x => decide ((x.natAbs : Int) ≤ 1000000)).map V.bl))) ⟨Evl.Ex.new nD, upd_same⟩ (fun i H' _ h => ex_T h.1 haH) (fun i x H' H'' hi h y => ?_) (fun H' h => ?_)
    · obtain ⟨rfl, hx⟩ := y
      obtain ⟨z, ez, rfl⟩ := int_get hx
      rw [List.length_map] at hi
      refine ⟨rfl, .int z, rfl, z, rfl, _, _, rfl, rfl, ⟨by decide, by decide, by decide⟩, _, _, rfl, rfl, _, h.2, ?_, Evl.Ex.mut h.1 nD, ?_⟩
      · rw [List.length_map, List.length_map, List.length_take]
        exact small1000 (by omega)
      · rw [upd_same, List.take_add_one, ez, abs_nat, List.map_append, List.map_append]
        rfl
    · refine ⟨D, _, rfl, SqL.of h.2, ?_⟩
      refine q _ _ h.1 fun hb x hx => ?_
      rw [List.length_map, List.take_of_length_le (Nat.le_refl _)] at hb
      have := List.all_eq_true.mp hb _ (List.mem_map_of_mem (f := fun x : Int => decide ((x.natAbs : Int) ≤ 1000000)) hx)
      have := of_decide_eq_true this
      omega
theorem rep_zeros (n : Nat) : (List.replicate n [V.int 0]).flatten = (List.replicate n (0 : Int)).map V.int := by
  have := rep_zero [] n
  rwa [List.map_nil, List.nil_append, List.nil_append] at this
/-- some row of a size -/
def sp_row (K : PySem.W.Frag) : Sp := fun vs H Q _ => ∃ (d l kn : Addr) (size : Nat) (wd : Int) (ks : List V) (rows : List (List Int)) (F : Hp), vs = [.ref d, .int (size : Int), .int wd, .ref kn] ∧ Wr d l F H ∧ 0 < size ∧ size ≤ 1000 ∧ 0 ≤ wd ∧ wd ≤ 1000000 ∧
  H kn = some (.lst ks) ∧ DpAll K F ks (rows.map ti) ∧ rows.length ≤ 1000 ∧ kn ≠ d ∧ kn ≠ l ∧ (∀ r ∈ rows, r.length = size ∧ Mil r) ∧
  ∀ v F' H' r, Wr d l F' H' → Nf F H F' → Kp d l H H' → Dp K F' v (ti r) → r.length = size → Mil r → Q v H'
theorem ok_row {k : Nat} (T : Txt K mg) : FnOk P w K mg base CX0 (k + 3) T.f__law_row T.fd__law_row ["_law_deal_here", "_law_size", "_law_wide", "_law_known"] (sp_row K) := by
  have G__law_draw : FnOk P w K mg base CX0 1 T.f__law_draw T.fd__law_draw ["_law_deal_here", "_law_many"] sp_draw := ok_draw T
  have G__law_number : FnOk P w K mg base CX0 2 T.f__law_number T.fd__law_number ["_law_deal_here", "_law_wide"] sp_numberW := ok_numberW T
  have G__law_within : FnOk P w K mg base CX0 1 T.f__law_within T.fd__law_within ["_law_row_here"] (sp_within K) := ok_within T
  refine T.F__law_row.ok sc__law_row (fun vs H Q E h => ?_) (fun cdv A outer s H vs Q E hr h => ?_)
  · obtain ⟨d, l, kn, size, wd, ks, rows, F, rfl, _⟩ := h
    rfl
  · obtain ⟨d, l, kn, size, wd, ks, rows, F, rfl, W0, sz0, sz1, w0, w1, hkn, hks, hrl, nkd, nkl, hrows, q⟩ := h
    have hksl : ks.length = rows.length := by rw [DpAll.length hks, List.length_map]
    refine ⟨_, (pss_cons (ps_set (i := 4) sc__law_row.nd rfl (Or.inl rfl) (pe_call G__law_draw (hr.mono (by omega)) (by rfl) T.g__law_draw T.F__law_draw.kp T.b__law_draw .nil pass0 (pa_cons (pv 0) (pa_cons pe_int pa_nil))))
      (pss_cons (ps_if (pt_cmpR op_eq (pv 4) pe_int (nomark _)) (pss_one (ps_ret (pe_op (op_repT1 (K := K)) (pe_tup (pa_cons pe_int pa_nil)) (pv 1)))) pss_nil)
      (pss_cons (ps_set (i := 5) sc__law_row.nd rfl (Or.inl rfl) (pe_callTy (call_tupleK (K := K)) (by rfl) T.z_tuple bt_tuple (pa_cons (pe_lc (own := [("_law_j", 6)]) (g := gName 6) (tt := tYes) rfl sc__law_row.nd (pi_range1 (by rfl) T.z_range (pa_cons (pv 1) pa_nil)) (blkOk_by (own := [("_law_j", 6)]) (N := nm__law_row) (sc := defScope st__law_row) (by decide +kernel)) (fun _ _ _ _ _ => (pg_name (i := 6) sc__law_row.nd rfl (Or.inl rfl))) (fun _ _ _ _ _ => pts_nil) (fun _ _ _ _ _ => (pe_call G__law_number (hr.mono (by omega)) (by rfl) T.g__law_number T.F__law_number.kp T.b__law_number .nil pass0 (pa_cons (pv 0) (pa_cons (pv 2) pa_nil))))) pa_nil)))
      (Evl.pss_cut (ps_if (PW.pt (pw_and (pt_cmpR op_lt (pv 4) pe_int (nomark _)) (pw_and1 (pt_cmpR op_gt (pe_callB (call_lenK (K := K)) (by rfl) T.z_len bt_len (pa_cons (pv 3) pa_nil)) pe_int (nomark _))))) (pss_cons (ps_asg (pe_tup (pa_cons (pe_op op_sub (pe_call G__law_draw (hr.mono (by omega)) (by rfl) T.g__law_draw T.F__law_draw.kp T.b__law_draw .nil pass0 (pa_cons (pv 0) (pa_cons pe_int pa_nil))) pe_int) (pa_cons (pe_op op_sub (pe_call G__law_draw (hr.mono (by omega)) (by rfl) T.g__law_draw T.F__law_draw.kp T.b__law_draw .nil pass0 (pa_cons (pv 0) (pa_cons pe_int pa_nil))) pe_int) pa_nil))) (pg_tupK (K := K) rfl (pgs_cons (pg_name (i := 7) sc__law_row.nd rfl (Or.inr rfl)) (pgs_cons (pg_name (i := 8) sc__law_row.nd rfl (Or.inr rfl)) pgs_nil))))
        (pss_cons (ps_par (i := 9) (j := 10) (by rfl) sc__law_row.nd rfl rfl (by decide) rfl rfl (pa_cons (pe_ix (ix_listK (K := K)) (pv 3) (pe_call G__law_draw (hr.mono (by omega)) (by rfl) T.g__law_draw T.F__law_draw.kp T.b__law_draw .nil pass0 (pa_cons (pv 0) (pa_cons (pe_callB (call_lenK (K := K)) (by rfl) T.z_len bt_len (pa_cons (pv 3) pa_nil)) pa_nil))) (fun _ _ => rfl)) (pa_cons (pe_ix (ix_listK (K := K)) (pv 3) (pe_call G__law_draw (hr.mono (by omega)) (by rfl) T.g__law_draw T.F__law_draw.kp T.b__law_draw .nil pass0 (pa_cons (pv 0) (pa_cons (pe_callB (call_lenK (K := K)) (by rfl) T.z_len bt_len (pa_cons (pv 3) pa_nil)) pa_nil))) (fun _ _ => rfl)) pa_nil)) (by rfl))
        (pss_cons (ps_set (i := 11) sc__law_row.nd rfl (Or.inl rfl) (pe_callTy (call_tupleK (K := K)) (by rfl) T.z_tuple bt_tuple (pa_cons (pe_lc (own := [("_law_x", 12), ("_law_y", 13)]) (g := gTup K 2 (gCons (gName 12) (gCons (gName 13) gNil))) (tt := tYes) rfl sc__law_row.nd (pi_zipM .T .T (K := K) (by rfl) T.z_zip (pa_cons (pv 9) (pa_cons (pv 10) pa_nil))) (blkOk_by (own := [("_law_x", 12), ("_law_y", 13)]) (N := nm__law_row) (sc := defScope st__law_row) (by decide +kernel)) (fun _ _ _ _ _ => (pg_tupK (K := K) rfl (pgs_cons (pg_name (i := 12) sc__law_row.nd rfl (Or.inl rfl)) (pgs_cons (pg_name (i := 13) sc__law_row.nd rfl (Or.inl rfl)) pgs_nil)))) (fun _ _ _ _ _ => pts_nil) (fun _ _ _ _ _ => (pe_op op_add (pe_op op_mul (pv 7) (pv 12)) (pe_op op_mul (pv 8) (pv 13))))) pa_nil)))
        (pss_one (ps_if (pt_val (pe_call G__law_within (hr.mono (by omega)) (by rfl) T.g__law_within T.F__law_within.kp T.b__law_within .nil pass0 (pa_cons (pv 11) pa_nil))) (pss_one (ps_ret (pv 11))) pss_nil))))) pss_nil)
      (pss_one (ps_ret (pv 5))))))), ?_⟩
    refine ⟨.ref d, rfl, d, l, 6, rfl, W0.deal, by decide, by decide, fun fm H1 f0 f1 D1 k1 => ?_⟩
    have W1 := W0.draw D1 k1
    refine ⟨.int fm, rfl, rfl, _, rfl, ite2 (fun e => ?_) (fun e => ?_)⟩
    · -- all 0
      refine ⟨by show 1 ≤ sizeLine; decide, fun z nz => ?_⟩
      have W2 : Wr d l (upd F z (.tup [.int 0])) (upd H1 z (.tup [.int 0])) := W1.new nz
      have fx := Evl.Ex.new (o := .tup [V.int 0]) (sub_none W1.sub nz)
      have k2 := k1.trans (Kp.of_ex (Evl.Ex.new (o := .tup [V.int 0]) nz))
      refine ⟨_, rfl, z, _, [.int 0], rfl, rfl, SqT.of upd_same, by simp, by omega, by omega, by decide, fun h1 => ?_, fun p np => ?_⟩
      · refine q _ _ _ [0] W2 (Nf.refl.new W1 k1 nz) k2 (Dp.of_ti (SqT.of upd_same)) (by show 1 = size; omega) fun x hx => ?_
        rw [List.mem_singleton.mp hx]
        exact ⟨by decide, by decide⟩
      · have W3 := W2.new (o := .tup (List.replicate (size : Int).toNat [V.int 0]).flatten) np
        have fx3 := Evl.Ex.new (o := .tup (List.replicate (size : Int).toNat [V.int 0]).flatten) (sub_none W2.sub np)
        refine q _ _ _ (List.replicate size 0) W3 ((Nf.refl.new W1 k1 nz).new W2 k2 np) (k2.trans (Kp.of_ex (Evl.Ex.new np))) (Dp.of_ti (SqT.of ?_)) List.length_replicate fun x hx => ?_
        · rw [upd_same, rep_zeros, Int.toNat_natCast]
        · rw [(List.mem_replicate.mp hx).2]
          exact ⟨by decide, by decide⟩
    · -- found
      refine ⟨_, rfl, (size : Int), rfl, by omega, by omega, fun B nB => ?_⟩
      have nBd := W1.ne nB
      refine lc_range (lo := 0) (n := (size : Int).toNat) (fun i H' => IsDeal H' d l ∧ Kp d l H1 H' ∧ ∃ bs : List Int, H' B = some (.lst (bs.map V.int)) ∧ bs.length = i ∧ Mil bs) ⟨D1.upd nBd.1 nBd.2, Kp.of_ex (Evl.Ex.new nB), [], upd_same, rfl, fun x hx => (by cases hx)⟩ (fun i H' hi h => ?_) (fun H2 h => ?_)
      · obtain ⟨D7, k7, bs, hB, el, hb⟩ := h
        refine ⟨rfl, .ref d, rfl, .int wd, rfl, d, l, wd, rfl, D7, w0, w1, fun x H8 x0 x1 D8 k8 => ⟨bs.map V.int, k8 B _ nBd.1 nBd.2 hB, small1000 (by rw [List.length_map]; omega), D8.upd nBd.1 nBd.2, (k7.trans k8).mut nB, bs ++ [x], by rw [upd_same, List.map_append]; rfl, by rw [List.length_append, el]; rfl, fun y hy => ?_⟩⟩
        rcases List.mem_append.mp hy with h | h
        · exact hb y h
        · rw [List.mem_singleton.mp h]; exact ⟨x0, x1⟩
      · obtain ⟨D2, k2, bs, hB, el, hb⟩ := h
        rw [Int.toNat_natCast] at el
        refine ⟨B, _, rfl, .inl ⟨SqL.of hB, fun tb ntb => ?_⟩⟩
        have W2 := W1.draw D2 k2
        have W3 : Wr d l (upd F tb (.tup (bs.map V.int))) (upd H2 tb (.tup (bs.map V.int))) := W2.new ntb
        have fx := Evl.Ex.new (o := .tup (bs.map V.int)) (sub_none W2.sub ntb)
        have K3 := (k1.trans k2).trans (Kp.of_ex (Evl.Ex.new (o := .tup (bs.map V.int)) ntb))
        have nx : Nf F H (upd F tb (.tup (bs.map V.int))) := Nf.refl.new W2 (k1.trans k2) ntb
        have dbs : Dp K (upd F tb (.tup (bs.map V.int))) (.ref tb) (ti bs) := Dp.of_ti (SqT.of upd_same)
        generalize upd F tb (.tup (bs.map V.int)) = F3 at W3 fx dbs nx
        generalize upd H2 tb (.tup (bs.map V.int)) = H3 at W3 K3 ⊢
        have hk3 := K3 kn _ nkd nkl hkn
        have hks3 := hks.ex fx
        have fin : ∀ F' H', Wr d l F' H' → Ex F3 F' → Kp d l H H' → Nf F H F' → Q (.ref tb) H' := fun F' H' W' x' k' n' => q _ _ _ bs W' n' k' (dbs.ex x') el hb
        refine ⟨fun σ H' => σ[5]? = some (some (.ref tb)) ∧ ∃ F', Wr d l F' H' ∧ Ex F3 F' ∧ Kp d l H H' ∧ Nf F H F', ?_, ?_⟩
        · refine ⟨.int fm, rfl, _, _, rfl, rfl, _, rfl, ite2 (fun e1 => ?_) (fun e1 => iteF ⟨rfl, F3, W3, Evl.Ex.refl _, K3, nx⟩)⟩
          refine ⟨.ref kn, rfl, kn, _, rfl, .inl (SqL.of hk3), _, _, rfl, rfl, _, rfl, ite2 (fun e2 => ?_) (fun e2 => ⟨rfl, F3, W3, Evl.Ex.refl _, K3, nx⟩)⟩
          have hpos : 0 < ks.length := by have := of_decide_eq_true e2; omega
          -- a, b
          refine ⟨.ref d, rfl, d, l, 9, rfl, W3.deal, by decide, by decide, fun a Ha a0 a1 Da ka => ⟨_, _, rfl, rfl, .ref d, rfl, d, l, 9, rfl, Da, by decide, by decide, fun b Hb b0 b1 Db kb => ⟨_, _, rfl, rfl, by show 2 ≤ sizeLine; decide, fun t nt => ?_⟩⟩⟩
          have Wb := (W3.draw Da ka).draw Db kb
          have Kb := (K3.trans ka).trans kb
          have W4 : Wr d l F3 (upd Hb t (.tup [.int (a - 4), .int (b - 4)])) := Wb.newm nt
          have K4 := Kb.trans (Kp.of_ex (Evl.Ex.new (o := .tup [V.int (a - 4), .int (b - 4)]) nt))
          refine ⟨t, _, rfl, SqT.of upd_same, rfl, _, _, rfl, _, [], rfl, rfl, ?_⟩
          generalize upd Hb t (.tup [.int (a - 4), .int (b - 4)]) = H4 at W4 K4 ⊢
          have hk4 := K4 kn _ nkd nkl hkn
          -- one, other
          refine ⟨.ref kn, rfl, .ref d, rfl, .ref kn, rfl, kn, _, rfl, .inl (SqL.of hk4), d, l, _, rfl, W4.deal, by omega, by omega, fun r1 H5 r10 r11 D5 k5 => ?_⟩
          obtain ⟨v1, ev1, hv1⟩ := at_in (xs := ks) r10 r11
          have W5 := W4.draw D5 k5
          have K5 := K4.trans k5
          have hk5 := K5 kn _ nkd nkl hkn
          refine ⟨kn, _, r1, _, rfl, rfl, SqL.of hk5, ev1, ?_⟩
          refine ⟨.ref kn, rfl, .ref d, rfl, .ref kn, rfl, kn, _, rfl, .inl (SqL.of hk5), d, l, _, rfl, W5.deal, by omega, by omega, fun r2 H6 r20 r21 D6 k6 => ?_⟩
          obtain ⟨v2, ev2, hv2⟩ := at_in (xs := ks) r20 r21
          have W6 := W5.draw D6 k6
          have K6 := K5.trans k6
          have hk6 := K6 kn _ nkd nkl hkn
          refine ⟨kn, _, r2, _, rfl, rfl, SqL.of hk6, ev2, _, _, rfl, ?_⟩
          have W7 := W6
          have K7 := K6
          generalize H6 = H7 at W7 K7 ⊢
          have get : ∀ v ∈ ks, ∃ c row, v = .ref c ∧ SqT K F3 c (row.map V.int) ∧ row.length = size ∧ Mil row := fun v hv => by
            obtain ⟨j, hj⟩ := List.mem_iff_getElem?.mp hv
            obtain ⟨dd, ed, hdd⟩ := DpAll.get hks3 hj
            rw [List.getElem?_map] at ed
            obtain ⟨row, er, rfl⟩ := Option.map_eq_some_iff.mp ed
            obtain ⟨c, rfl, hc⟩ := hdd.ti_inv
            obtain ⟨h1, h2⟩ := hrows row (List.mem_of_getElem? er)
            exact ⟨c, row, rfl, hc, h1, h2⟩
          obtain ⟨c1, row1, rfl, hc1, l1, m1⟩ := get v1 hv1
          obtain ⟨c2, row2, rfl, hc2, l2, m2⟩ := get v2 hv2
          -- mixed
          have hN : size = min (row1.map V.int).length (row2.map V.int).length := by rw [List.length_map, List.length_map, l1, l2, Nat.min_self]
          refine ⟨.ref c1, rfl, .ref c2, rfl, c1, c2, row1.map V.int, row2.map V.int, rfl, ex_T W7.sub hc1, ex_T W7.sub hc2, fun D nD => ?_⟩
          refine lc_it (walk_zipM hN) (fun j H' => Gr NoS F3 H7 F3 H' ∧ ∃ ms : List Int, H' D = some (.lst (ms.map V.int)) ∧ ms.length = j) ⟨(Gr.refl W7.sub).newm nD, [], upd_same, rfl⟩ (fun j H' _ h => ⟨ex_T h.1.sub hc1, ex_T h.1.sub hc2⟩) (fun j x' H' H'' hj h hy => ?_) (fun H8 h => ?_)
          · obtain ⟨g, ms, hD, elm⟩ := h
            obtain ⟨t3, v1, v2, rfl, nt3, rfl, e1', e2'⟩ := hy
            obtain ⟨x, ex, rfl⟩ := int_get e1'
            obtain ⟨y, ey, rfl⟩ := int_get e2'
            have hmx := m1 x (List.mem_of_getElem? ex)
            have hmy := m2 y (List.mem_of_getElem? ey)
            refine ⟨t3, _, rfl, SqT.of upd_same, rfl, _, _, rfl, _, [], rfl, rfl, ?_⟩
            refine ⟨rfl, .int (a - 4), rfl, .int x, rfl, _, _, rfl, rfl, .inl ⟨by omega, by omega⟩, .int (b - 4), rfl, .int y, rfl, _, _, rfl, rfl, .inl ⟨by omega, by omega⟩, _, _, rfl, rfl, _, by rw [upd_ne (ne_of_none hD nt3)]; exact hD, ?_, (g.newm nt3).mut nD (sub_none W7.sub nD), ms ++ [(a - 4) * x + (b - 4) * y], by rw [upd_same, List.map_append]; rfl, by rw [List.length_append, elm]; rfl⟩
            rw [List.length_map, elm]
            exact small1000 (by omega)
          · obtain ⟨g, ms, hD, elm⟩ := h
            refine ⟨D, _, rfl, .inl ⟨SqL.of hD, fun tm ntm => ?_⟩⟩
            have g9 := g.new (o := .tup (ms.map V.int)) ntm
            have dm : Dp K (upd F3 tm (.tup (ms.map V.int))) (.ref tm) (ti ms) := Dp.of_ti (SqT.of upd_same)
            refine ⟨_, rfl, .ref tm, ms, _, rfl, g9.sub, dm, by omega, fun bb H9 x9 hbb => ⟨bb, rfl, ite2 (fun e3 => ?_) (fun e3 => ?_)⟩⟩
            · have g10 := g9.trans (Gr.of_ex g9.sub x9)
              exact ⟨_, rfl, q _ _ _ ms (W7.gr g10) (nx.gr W7 K7 g10) (K7.trans g10.toKp) dm elm (hbb e3)⟩
            · have g10 := g9.trans (Gr.of_ex g9.sub x9)
              exact ⟨rfl, _, W7.gr g10, g10.fz, K7.trans g10.toKp, nx.gr W7 K7 g10⟩
        · rintro σ H' ⟨e5, F', W', x', k', n'⟩
          exact ⟨_, e5, fin F' H' W' x' k' n'⟩

/-! ### the law's own bare and lead -/
def bareX (row : List Int) (x : Int) : Int := if gc row = 0 then x else x.fdiv (sc row)
theorem bare_map (row : List Int) : bareL row = row.map (bareX row) := by
  unfold bareL bareX
  by_cases h : gc row = 0
  · simp only [if_pos h, List.map_id']
  · simp only [if_neg h]
theorem sc_ls {row : List Int} (h : gc row = 0) : sc row = 0 := by
  unfold sc
  rw [h]
  split <;> rfl
theorem lb_eq {row : List Int} {x : Int} (hx : x ∈ row) (m : Int) (hm : m = if ((sc row).natAbs : Int) > 1 then ((sc row).natAbs : Int) else 1) : x.fdiv m * (if decide (sc row < 0) = true then 0 - 1 else 1) = bareX row x := by
  unfold bareX
  by_cases h : gc row = 0
  · rw [if_pos h, gc_zero h x hx, sc_ls h]
    rw [sc_ls h] at hm
    subst hm
    decide
  · rw [if_neg h]
    have hg : ((sc row).natAbs : Int) = gc row := by rw [sc_abs]
    have hmg : m = (gc row : Int) := by
      rw [hm, hg]
      split <;> omega
    have e := sc_mul h hx
    generalize x.fdiv (sc row) = y at e
    have hg0 : (gc row : Int) ≠ 0 := by omega
    by_cases hs : ls row < 0
    · have h2 : sc row = 0 - (gc row : Int) := if_pos hs
      have e2 : x = (gc row : Int) * (-y) := by
        rw [e, h2, Int.zero_sub, Int.neg_mul, Int.mul_neg]
      rw [hmg, e2, Int.mul_fdiv_cancel_left _ hg0, if_pos (decide_eq_true (by omega))]
      omega
    · have h2 : sc row = (gc row : Int) := if_neg hs
      rw [hmg, e, h2, Int.mul_fdiv_cancel_left _ hg0, if_neg (fun hh => by have := of_decide_eq_true hh; omega)]
      omega
theorem ok_lbare {k : Nat} (T : Txt K mg) : FnOk P w K mg base CX0 (k + 1) T.f__law_bare T.fd__law_bare ["_law_row_here"] (sp_bare K) := by
  refine T.F__law_bare.ok sc__law_bare (fun vs H Q E h => ?_) (fun cdv A outer s H vs Q E hr h => ?_)
  · obtain ⟨v, row, F, rfl, _⟩ := h
    rfl
  · obtain ⟨v, row, F, rfl, hF, hv, hl, hmil, q⟩ := h
    obtain ⟨a, rfl, ha⟩ := hv.ti_inv
    have haH := ex_T hF ha
    refine ⟨_, (pss_cons (ps_set (i := 1) sc__law_bare.nd rfl (Or.inr rfl) pe_int)
      (Evl.pss_cut (ps_for PassesOwn.never rfl (pi_tupK (K := K) (pv 0)) (pg_name (i := 2) sc__law_bare.nd rfl (Or.inl rfl))
        (pss_cons (ps_par (i := 3) (j := 4) (by rfl) sc__law_bare.nd rfl rfl (by decide) rfl rfl (pa_cons (pv 1) (pa_cons (pe_callB call_abs (by rfl) T.z_abs bt_abs (pa_cons (pv 2) pa_nil)) pa_nil)) (by rfl))
        (Evl.pss_cut (ps_while PassesOwn.never (pt_cmpR op_gt (pv 4) pe_int (nomark _))
          (pss_one (ps_par (i := 3) (j := 4) (by rfl) sc__law_bare.nd rfl rfl (by decide) rfl rfl (pa_cons (pv 4) (pa_cons (pe_op op_modN (pv 3) (pv 4)) pa_nil)) (by rfl))))
        (pss_one (ps_set (i := 1) sc__law_bare.nd rfl (Or.inr rfl) (pv 3))))))
      (pss_cons (ps_setLc (i := 5) (own := [("_law_number_here", 2)]) (g := gName 2) rfl sc__law_bare.nd rfl rfl (sw_true rfl rfl rfl (by decide +kernel)) (pi_tupK (K := K) (pv 0)) (blkOk_by (own := [("_law_number_here", 2)]) (N := nm__law_bare) (sc := defScope st__law_bare) (by decide +kernel)) (fun _ _ _ _ _ => (pg_name (i := 2) sc__law_bare.nd rfl (Or.inl rfl))) (fun _ _ _ _ _ => (pts_one (pt_cmpR op_ne (pv 2) pe_int (nomark _)))) (fun _ _ _ _ _ => (pv 2)))
      (Evl.pss_cut (ps_if (PW.pt (pw_and (pt_cmpR op_gt (pe_callB (call_lenK (K := K)) (by rfl) T.z_len bt_len (pa_cons (pv 5) pa_nil)) pe_int (nomark _)) (pw_and1 (pt_cmpR op_lt (pe_ix (ix_listK (K := K)) (pv 5) (pe_un un_neg pe_int) (fun _ _ => rfl)) pe_int (nomark _))))) (pss_one (ps_set (i := 1) sc__law_bare.nd rfl (Or.inr rfl) (pe_op op_sub pe_int (pv 1)))) pss_nil)
      (pss_one (ps_ret (pe_callTy (call_tupleK (K := K)) (by rfl) T.z_tuple bt_tuple (pa_cons (pe_lc (own := [("_law_number_here", 2)]) (g := gName 2) (tt := tYes) rfl sc__law_bare.nd (pi_tupK (K := K) (pv 0)) (blkOk_by (own := [("_law_number_here", 2)]) (N := nm__law_bare) (sc := defScope st__law_bare) (by decide +kernel)) (fun _ _ _ _ _ => (pg_name (i := 2) sc__law_bare.nd rfl (Or.inl rfl))) (fun _ _ _ _ _ => pts_nil) (fun _ _ _ _ _ => (pe_op op_mul (pe_op op_fdivN (pv 2) (pe_callB (call_max2 rfl) (by rfl) T.z_max bt_max (pa_cons pe_int (pa_cons (pe_callB call_abs (by rfl) T.z_abs bt_abs (pa_cons (pv 1) pa_nil)) pa_nil)))) (pe_ix (ix_listK (K := K)) (pe_lst (pa_cons pe_int (pa_cons (pe_op op_sub pe_int pe_int) pa_nil))) (pe_callTy call_int1 (by rfl) T.z_int bt_int (pa_cons (pe_cmpR op_lt (pv 1) pe_int (nomark _)) pa_nil)) (fun _ _ => rfl))))) pa_nil)))))))), ?_⟩
    refine ⟨fun σ H1 => (∃ y2 y3 y4, σ = [some (.ref a), some (.int (gc row : Int)), y2, y3, y4, none]) ∧ H1 = H, ?_, ?_⟩
    · refine ⟨.ref a, rfl, a, rfl, ⟨_, haH⟩, for_tup (K := K) (a := a) (xs := row.map V.int) (fun i σ H1 => (∃ y2 y3 y4, σ = [some (.ref a), some (.int (gcF 0 (row.take i) : Int)), y2, y3, y4, none]) ∧ H1 = H) ⟨⟨_, _, _, rfl⟩, rfl⟩ (fun i σ H1 _ h => h.2 ▸ haH) (fun i x σ H1 hx h => ?_) (fun σ H1 h => ?_)⟩
      · obtain ⟨⟨y2, y3, y4, rfl⟩, rfl⟩ := h
        obtain ⟨z, ez, rfl⟩ := int_get hx
        refine ⟨_, rfl, .int z, rfl, z, rfl, ?_⟩
        rw [abs_nat]
        refine ⟨_, _, rfl, ?_⟩
        refine ⟨fun σ H2 => (∃ y4, σ = [some (.ref a), some (.int (gcF 0 (row.take i) : Int)), some (.int z), some (.int (gcF 0 (row.take (i + 1)) : Int)), y4, none]) ∧ H2 = H1, ?_, ?_⟩
        · refine ⟨fun m σ H2 => ∃ x y : Nat, σ = [some (.ref a), some (.int (gcF 0 (row.take i) : Int)), some (.int z), some (.int (x : Int)), some (.int (y : Int)), none] ∧ Nat.gcd x y = gcF 0 (row.take (i + 1)) ∧ y = m ∧ H2 = H1, ⟨z.natAbs, gcF 0 (row.take i), z.natAbs, rfl, ?_, rfl, rfl⟩, ?_⟩
          · rw [List.take_add_one, ez, Option.toList_some, gcF_snoc]
          · rintro m σ H2 ⟨x, y, rfl, hg, rfl, rfl⟩
            refine ⟨.int (y : Int), rfl, _, _, rfl, rfl, _, rfl, ite2 (fun e => ?_) (fun e => ?_)⟩
            · have hy : 0 < y := by have := of_decide_eq_true e; omega
              refine ⟨_, fun σ' H' h => h, ?_⟩
              refine ⟨.int (y : Int), rfl, .int (x : Int), rfl, .int (y : Int), rfl, _, _, rfl, rfl, by omega, _, _, rfl, x % y, Nat.mod_lt _ hy, y, x % y, ?_, gcd_step hg, rfl, rfl⟩
              show [some (V.ref a), some (V.int (gcF 0 (row.take i) : Int)), some (V.int z), some (V.int (y : Int)), some (V.int ((x : Int).fmod (y : Int))), none] = _
              rw [fmod_nat]
            · have hy : y = 0 := by
                by_cases h : y = 0
                · exact h
                · exact absurd (decide_eq_true (show (y : Int) > 0 by omega)) e
              subst hy
              rw [Nat.gcd_zero_right] at hg
              rw [← hg]
              exact ⟨⟨_, rfl⟩, rfl⟩
        · rintro σ H2 ⟨⟨y4', rfl⟩, rfl⟩
          exact ⟨_, rfl, ⟨_, _, _, rfl⟩, rfl⟩
      · obtain ⟨⟨y2, y3, y4, rfl⟩, rfl⟩ := h
        rw [List.length_map, List.take_of_length_le (Nat.le_refl _)]
        exact ⟨⟨_, _, _, rfl⟩, rfl⟩
    · rintro σ H1 ⟨⟨y2, y3, y4, rfl⟩, rfl⟩
      -- some
      refine ⟨.ref a, rfl, a, rfl, ⟨_, haH⟩, fun B nB => ?_⟩
      have nBF : F B = none := sub_none hF nB
      refine lc_it (walk_tup (K := K) (a := a) (xs := row.map V.int)) (fun i H' => Gr NoS F H1 F H' ∧ H' B = some (.lst (((row.take i).filter fun x => decide (x ≠ 0)).map V.int))) ⟨(Gr.refl hF).newm nB, upd_same⟩ (fun i H' _ h => ex_T h.1.sub ha) (fun i x H' H'' hi h y => ?_) (fun H2 h => ?_)
      · obtain ⟨g, hB⟩ := h
        obtain ⟨rfl, hx⟩ := y
        obtain ⟨z, ez, rfl⟩ := int_get hx
        rw [List.length_map] at hi
        refine ⟨rfl, .int z, rfl, rfl, _, rfl, ite2 (fun e => ?_) (fun e => ?_)⟩
        · have hz : z ≠ 0 := fun h0 => by
            rw [h0, decide_eq_true rfl] at e
            exact absurd e (by decide)
          refine ⟨.int z, rfl, _, hB, ?_, g.mut nB nBF, ?_⟩
          · rw [List.length_map]
            have := List.length_filter_le (fun x => decide (x ≠ 0)) (row.take i)
            rw [List.length_take] at this
            exact small1000 (by omega)
          · rw [upd_same, List.take_add_one, ez, Option.toList_some, List.filter_append, List.map_append]
            have : [z].filter (fun x => decide (x ≠ 0)) = [z] := by simp [hz]
            rw [this]
            rfl
        · have hz : z = 0 := by
            by_cases h0 : z = 0
            · exact h0
            · exfalso
              apply e
              rw [decide_eq_false (fun hh : V.int z = V.int 0 => h0 (V.int.inj hh))]
              rfl
          refine ⟨g, ?_⟩
          rw [List.take_add_one, ez, Option.toList_some, List.filter_append, List.map_append]
          have : [z].filter (fun x => decide (x ≠ 0)) = [] := by simp [hz]
          rw [this, List.map_nil, List.append_nil]
          exact hB
      · obtain ⟨g, hB⟩ := h
        rw [List.length_map, List.take_of_length_le (Nat.le_refl _)] at hB
        have hlast := ls_filter row
        generalize (row.filter fun x => decide (x ≠ 0)) = ss at hB hlast
        refine ⟨fun σ H3 => (∃ y2 y3 y4, σ = [some (.ref a), some (.int (sc row)), y2, y3, y4, some (.ref B)]) ∧ H3 = H2, ?_, ?_⟩
        · refine ⟨.ref B, rfl, B, _, rfl, .inl (SqL.of hB), _, _, rfl, rfl, _, rfl, ite2 (fun e => ?_) (fun e => iteF ?_)⟩
          · have hne : ss ≠ [] := fun h => by
              subst h
              exact absurd (of_decide_eq_true e) (by decide)
            have hpos : 0 < ss.length := List.length_pos_iff.mpr hne
            have hls : ls row ≠ 0 := fun h => by
              rw [if_pos h] at hlast
              exact hne (List.getLast?_eq_none_iff.mp hlast)
            rw [if_neg hls] at hlast
            have eat : atI (ss.map V.int) (-1) = some (.int (ls row)) := by
              obtain ⟨ys, hys⟩ := List.getLast?_eq_some_iff.mp hlast
              rw [hys, List.map_append]
              exact atI_last _ _
            refine ⟨.ref B, rfl, _, rfl, B, _, _, _, rfl, rfl, SqL.of hB, eat, _, _, rfl, rfl, _, rfl, ite2 (fun e2 => ?_) (fun e2 => ?_)⟩
            · refine ⟨_, rfl, _, _, rfl, rfl, ⟨y2, y3, y4, ?_⟩, rfl⟩
              have : ls row < 0 := of_decide_eq_true e2
              unfold sc
              rw [if_pos this]
              rfl
            · refine ⟨⟨y2, y3, y4, ?_⟩, rfl⟩
              have : ¬ ls row < 0 := fun h => e2 (decide_eq_true h)
              unfold sc
              rw [if_neg this]
              rfl
          · refine ⟨⟨y2, y3, y4, ?_⟩, rfl⟩
            have hss : ss = [] := by
              cases ss with
              | nil => rfl
              | cons u us =>
                exfalso
                apply e
                apply decide_eq_true
                rw [List.length_map, List.length_cons]
                omega
            subst hss
            have h0 : ls row = 0 := by
              by_cases h : ls row = 0
              · exact h
              · rw [if_neg h] at hlast
                cases hlast
            unfold sc
            rw [if_neg (by omega)]
            rfl
        · rintro σ H3 ⟨⟨y2, y3, y4, rfl⟩, rfl⟩
          refine ⟨.ref a, rfl, a, rfl, ⟨_, ex_T g.sub ha⟩, fun D nD => ?_⟩
          have nDF : F D = none := sub_none g.sub nD
          have nDH : H1 D = none := g.none nD
          have hgm := gc_mil hmil
          refine lc_it (walk_tup (K := K) (a := a) (xs := row.map V.int)) (fun i H' => Gr NoS F H1 F H' ∧ H' D = some (.lst (((row.take i).map (bareX row)).map V.int))) ⟨g.newm nD, upd_same⟩ (fun i H' _ h => ex_T h.1.sub ha) (fun i x H' H'' hi h y => ?_) (fun H' h => ?_)
          · obtain ⟨g, hD⟩ := h
            obtain ⟨rfl, hx⟩ := y
            obtain ⟨z, ez, rfl⟩ := int_get hx
            rw [List.length_map] at hi
            have hb : ((if sc row < 0 then -(sc row) else sc row) : Int) = ((sc row).natAbs : Int) := abs_nat _
            have hsa : (sc row).natAbs = gc row := sc_abs
            refine ⟨rfl, .int z, rfl, .int (sc row), rfl, _, rfl, 1, _, rfl, _, _, rfl, rfl, ⟨?_, ?_⟩, _, _, rfl, rfl, by show 2 ≤ sizeLine; decide, fun p np => ?_⟩
            · rw [hb]; split <;> omega
            · rw [hb]; split <;> omega
            refine ⟨.int (sc row), rfl, _, _, rfl, rfl, .inr ⟨_, rfl, ?_⟩⟩
            have ey : atI [V.int 1, .int (0 - 1)] (if decide (sc row < 0) = true then 1 else 0) = some (.int (if decide (sc row < 0) = true then 0 - 1 else 1)) := by
              by_cases hc : decide (sc row < 0) = true
              · rw [if_pos hc, if_pos hc]; rfl
              · rw [if_neg hc, if_neg hc]; rfl
            have exq := Evl.Ex.new (o := .lst [V.int 1, .int (0 - 1)]) np
            refine ⟨p, _, _, _, rfl, rfl, SqL.of upd_same, ey, _, _, rfl, rfl, .inr ?_, _, exq _ _ hD, ?_, (g.newm np).mut nDH nDF, ?_⟩
            · by_cases hc : decide (sc row < 0) = true
              · rw [if_pos hc]; exact ⟨by decide, by decide⟩
              · rw [if_neg hc]; exact ⟨by decide, by decide⟩
            · rw [List.length_map, List.length_map, List.length_take]
              exact small1000 (by omega)
            · rw [upd_same, List.take_add_one, ez, Option.toList_some, List.map_append, List.map_append]
              have e9 := lb_eq (List.mem_of_getElem? ez) (if ((if sc row < 0 then -(sc row) else sc row) : Int) > 1 then (if sc row < 0 then -(sc row) else sc row) else 1) (by rw [hb])
              show some (HO.lst (_ ++ [V.int (_ * _)])) = some (HO.lst (_ ++ [V.int (bareX row z)]))
              rw [e9]
          · obtain ⟨g, hD⟩ := h
            rw [List.length_map, List.take_of_length_le (Nat.le_refl _), ← bare_map] at hD
            exact q.tuple g hD (DpAll.ints _)
/-! the law's own lead -/
def ldL (row : List Int) (n : Nat) : List Int := ((List.range n).filter fun k => decide (row.getD k 0 ≠ 0)).map fun k : Nat => (k : Int)
theorem ld_mx (row : List Int) : IsLd row (mxD (-1) (ldL row row.length)) := by
  have hmem : ∀ z : Int, z ∈ ldL row row.length ↔ ∃ (n : Nat) (x : Int), z = n ∧ row[n]? = some x ∧ x ≠ 0 := fun z => by
    unfold ldL
    rw [List.mem_map]
    constructor
    · rintro ⟨n, hn, rfl⟩
      rw [List.mem_filter, List.mem_range] at hn
      have e : row[n]? = some row[n] := List.getElem?_eq_getElem hn.1
      refine ⟨n, row[n], rfl, e, ?_⟩
      have := of_decide_eq_true hn.2
      rwa [getD_of e] at this
    · rintro ⟨n, x, rfl, e, ne⟩
      refine ⟨n, List.mem_filter.mpr ⟨List.mem_range.mpr (List.getElem?_eq_some_iff.mp e).1, decide_eq_true ?_⟩, rfl⟩
      rwa [getD_of e]
  generalize ldL row row.length = zs at hmem
  cases zs with
  | nil =>
    refine .inl ⟨rfl, fun x hx => ?_⟩
    by_cases h : x = 0
    · exact h
    · obtain ⟨n, hn, rfl⟩ := List.mem_iff_getElem.mp hx
      exact absurd ((hmem n).mpr ⟨n, _, rfl, List.getElem?_eq_getElem hn, h⟩) (by simp)
  | cons z r =>
    have h1 := foldl_max_mem r z
    obtain ⟨h2, h3⟩ := foldl_max_le r z
    obtain ⟨n, x, e, ex, ne⟩ := (hmem _).mp h1
    refine .inr ⟨n, x, e, ex, ne, fun j y hj ey => ?_⟩
    by_cases h : y = 0
    · exact h
    · exfalso
      have h4 : ((j : Nat) : Int) ∈ z :: r := (hmem j).mpr ⟨j, y, rfl, ey, h⟩
      have h5 : ((j : Nat) : Int) ≤ r.foldl max z := by
        rcases List.mem_cons.mp h4 with h | h
        · rw [h]; exact h2
        · exact h3 _ h
      omega
theorem ok_llead {k : Nat} (T : Txt K mg) : FnOk P w K mg base CX0 (k + 1) T.f__law_lead T.fd__law_lead ["_law_row_here"] (fun vs H Q E => ∃ (v : V) (row : List Int) (F : Hp), vs = [v] ∧ Ex F H ∧ Dp K F v (ti row) ∧ row.length ≤ 1000 ∧ ∀ k H', Ex H H' → IsLd row k → Q (.int k) H') := by
  refine T.F__law_lead.ok sc__law_lead (fun vs H Q E h => ?_) (fun cdv A outer s H vs Q E hr h => ?_)
  · obtain ⟨v, row, F, rfl, _⟩ := h
    rfl
  · obtain ⟨v, row, F, rfl, hF, hv, hl, q⟩ := h
    obtain ⟨a, rfl, ha⟩ := hv.ti_inv
    have haH := ex_T hF ha
    refine ⟨_, (pss_one (ps_ret (pe_maxD (K := K) rfl (by rfl) T.z_max (pa_cons (pe_lc (own := [("_law_k", 1)]) (g := gName 1) rfl sc__law_lead.nd (pi_range1 (by rfl) T.z_range (pa_cons (pe_callB (call_lenK (K := K)) (by rfl) T.z_len bt_len (pa_cons (pv 0) pa_nil)) pa_nil)) (blkOk_by (own := [("_law_k", 1)]) (N := nm__law_lead) (sc := defScope st__law_lead) (by decide +kernel)) (fun _ _ _ _ _ => (pg_name (i := 1) sc__law_lead.nd rfl (Or.inl rfl))) (fun _ _ _ _ _ => (pts_one (pt_cmpR op_ne (pe_ix (ix_tupK (K := K)) (pv 0) (pv 1) (fun _ _ => rfl)) pe_int (nomark _)))) (fun _ _ _ _ _ => (pv 1))) pa_nil) (pk_cons (pe_op op_sub pe_int pe_int) pk_nil)))), ?_⟩
    refine ⟨.ref a, rfl, a, _, rfl, .inr haH, ((row.map V.int).length : Int), rfl, by omega, by rw [List.length_map]; omega, fun D nD => ?_⟩
    refine lc_range (lo := 0) (n := ((row.map V.int).length : Int).toNat) (fun i H' => Ex H H' ∧ H' D = some (.lst ((ldL row i).map V.int))) ⟨Evl.Ex.new nD, upd_same⟩ (fun i H' hi h => ?_) (fun H' h => ?_)
    · obtain ⟨x, hD⟩ := h
      have hil : i < row.length := by rw [Int.toNat_natCast, List.length_map] at hi; exact hi
      have z0 : (0 : Int) + (i : Int) = i := by omega
      have er : row[i]? = some row[i] := List.getElem?_eq_getElem hil
      have eat : atI (row.map V.int) (0 + (i : Int)) = some (.int row[i]) := by
        rw [z0]
        exact atI_nat (by rw [List.getElem?_map, er]; rfl)
      have hsnoc : ldL row (i + 1) = ldL row i ++ if row[i] ≠ 0 then [(i : Int)] else [] := by
        unfold ldL
        rw [List.range_succ, List.filter_append, List.map_append]
        congr 1
        by_cases h0 : row[i] = 0
        · rw [if_neg (by omega)]
          have : [i].filter (fun k => decide (row.getD k 0 ≠ 0)) = [] := by
            simp only [List.filter_cons, List.filter_nil, getD_of er, h0]
            rfl
          rw [this]
          rfl
        · rw [if_pos h0]
          have : [i].filter (fun k => decide (row.getD k 0 ≠ 0)) = [i] := by
            simp only [List.filter_cons, List.filter_nil, getD_of er]
            rw [if_pos (decide_eq_true h0)]
          rw [this]
          rfl
      refine ⟨rfl, .ref a, rfl, .int (0 + (i : Int)), rfl, a, _, _, _, rfl, rfl, ex_T x haH, eat, rfl, _, rfl, ite2 (fun e => ?_) (fun e => ?_)⟩
      · have h0 : row[i] ≠ 0 := fun h0 => by
          rw [h0, decide_eq_true rfl] at e
          exact absurd e (by decide)
        refine ⟨.int (0 + (i : Int)), rfl, _, hD, ?_, Evl.Ex.mut x nD, ?_⟩
        · rw [List.length_map]
          unfold ldL
          have := List.length_filter_le (fun k => decide (row.getD k 0 ≠ 0)) (List.range i)
          rw [List.length_range] at this
          rw [List.length_map]
          exact small1000 (by omega)
        · rw [upd_same, hsnoc, if_pos h0, List.map_append, z0]
          rfl
      · have h0 : row[i] = 0 := by
          by_cases h0 : row[i] = 0
          · exact h0
          · exfalso
            apply e
            rw [decide_eq_false (fun hh : V.int row[i] = V.int 0 => h0 (V.int.inj hh))]
            rfl
        refine ⟨x, ?_⟩
        rw [hsnoc, if_neg (by omega), List.append_nil]
        exact hD
    · obtain ⟨x, hD⟩ := h
      rw [Int.toNat_natCast, List.length_map] at hD
      exact ⟨_, _, rfl, rfl, D, _, _, rfl, rfl, SqL.of hD, q _ _ x (ld_mx row)⟩

/-! ### times -/
def sp_times (K : PySem.W.Frag) : Sp := fun vs H Q _ => ∃ (d l : Addr) (v : V) (row : List Int) (F : Hp), vs = [.ref d, v] ∧ Wr d l F H ∧ Dp K F v (ti row) ∧ row.length ≤ 1000 ∧ Mil row ∧
  ∀ v F' H' r, Wr d l F' H' → Nf F H F' → Kp d l H H' → Dp K F' v (ti r) → r.length ≤ 1000 → Mil r → Q v H'
theorem ok_times {k : Nat} (T : Txt K mg) : FnOk P w K mg base CX0 (k + 2) T.f__law_times T.fd__law_times ["_law_deal_here", "_law_row_here"] (sp_times K) := by
  have G__law_draw : FnOk P w K mg base CX0 1 T.f__law_draw T.fd__law_draw ["_law_deal_here", "_law_many"] sp_draw := ok_draw T
  have G__law_within : FnOk P w K mg base CX0 1 T.f__law_within T.fd__law_within ["_law_row_here"] (sp_within K) := ok_within T
  refine T.F__law_times.ok sc__law_times (fun vs H Q E h => ?_) (fun cdv A outer s H vs Q E hr h => ?_)
  · obtain ⟨d, l, v, row, F, rfl, _⟩ := h
    rfl
  · obtain ⟨d, l, v, row, F, rfl, W0, hv, hl, hmil, q⟩ := h
    obtain ⟨a, rfl, ha⟩ := hv.ti_inv
    refine ⟨_, (pss_cons (ps_set (i := 2) sc__law_times.nd rfl (Or.inr rfl) (pe_ix (ix_listK (K := K)) (pe_lst (pa_cons pe_int (pa_cons (pe_op op_sub pe_int pe_int) (pa_cons pe_int (pa_cons (pe_op op_sub pe_int pe_int) (pa_cons pe_int (pa_cons (pe_op op_sub pe_int pe_int) pa_nil))))))) (pe_call G__law_draw (hr.mono (by omega)) (by rfl) T.g__law_draw T.F__law_draw.kp T.b__law_draw .nil pass0 (pa_cons (pv 0) (pa_cons pe_int pa_nil))) (fun _ _ => rfl)))
      (pss_cons (ps_set (i := 3) sc__law_times.nd rfl (Or.inl rfl) (pe_callTy (call_tupleK (K := K)) (by rfl) T.z_tuple bt_tuple (pa_cons (pe_lc (own := [("_law_number_here", 4)]) (g := gName 4) (tt := tYes) rfl sc__law_times.nd (pi_tupK (K := K) (pv 1)) (blkOk_by (own := [("_law_number_here", 4)]) (N := nm__law_times) (sc := defScope st__law_times) (by decide +kernel)) (fun _ _ _ _ _ => (pg_name (i := 4) sc__law_times.nd rfl (Or.inl rfl))) (fun _ _ _ _ _ => pts_nil) (fun _ _ _ _ _ => (pe_op op_mul (pv 2) (pv 4)))) pa_nil)))
      (pss_cons (ps_if (pt_val (pe_call G__law_within (hr.mono (by omega)) (by rfl) T.g__law_within T.F__law_within.kp T.b__law_within .nil pass0 (pa_cons (pv 3) pa_nil))) (pss_one (ps_ret (pv 3))) pss_nil)
      (pss_one (ps_ret (pv 1)))))), ?_⟩
    refine ⟨_, _, rfl, rfl, _, _, rfl, rfl, _, _, rfl, rfl, by show 6 ≤ sizeLine; decide, fun p np => ?_⟩
    have npd := W0.ne np
    have W1 : Wr d l F (upd H p (.lst [.int 1, .int (0 - 1), .int 2, .int (0 - 6), .int 30, .int (0 - 1000)])) := W0.newm np
    refine ⟨.ref d, rfl, d, l, 6, rfl, W1.deal, by decide, by decide, fun r H1 r0 r1 D1 k1 => ?_⟩
    obtain ⟨v, ev, hv2⟩ := at_in (xs := [.int 1, .int (0 - 1), .int 2, .int (0 - 6), .int 30, .int (0 - 1000)]) r0 (by simpa using r1)
    obtain ⟨y, rfl, y0, y1⟩ : ∃ y, v = .int y ∧ -1000 ≤ y ∧ y ≤ 1000 := by
      simp only [List.mem_cons, List.not_mem_nil, or_false] at hv2
      rcases hv2 with rfl | rfl | rfl | rfl | rfl | rfl <;> exact ⟨_, rfl, by decide, by decide⟩
    refine ⟨p, _, r, _, rfl, rfl, SqL.of (k1 p _ npd.1 npd.2 upd_same), ev, ?_⟩
    have W2 := W1.draw D1 k1
    have K2 := (Kp.of_ex (d := d) (l := l) (Evl.Ex.new (o := .lst [.int 1, .int (0 - 1), .int 2, .int (0 - 6), .int 30, .int (0 - 1000)]) np)).trans k1
    refine ⟨.ref a, rfl, a, rfl, ⟨_, ex_T W2.sub ha⟩, fun D nD => ?_⟩
    refine lc_it (walk_tup (K := K) (a := a) (xs := row.map V.int)) (fun i H' => Gr NoS F H1 F H' ∧ H' D = some (.lst (((row.take i).map fun x => y * x).map V.int))) ⟨(Gr.refl W2.sub).newm nD, upd_same⟩ (fun i H' _ h => ex_T h.1.sub ha) (fun i x H' H'' hi h yy => ?_) (fun H' h => ?_)
    · obtain ⟨g, hD⟩ := h
      obtain ⟨rfl, hx⟩ := yy
      obtain ⟨z, ez, rfl⟩ := int_get hx
      rw [List.length_map] at hi
      refine ⟨rfl, .int y, rfl, .int z, rfl, _, _, rfl, rfl, .inl ⟨by omega, by omega⟩, _, hD, ?_, g.mut nD (sub_none W2.sub nD), ?_⟩
      · rw [List.length_map, List.length_map, List.length_take]
        exact small1000 (by omega)
      · rw [upd_same, List.take_add_one, ez, Option.toList_some, List.map_append, List.map_append]
        rfl
    · obtain ⟨g, hD⟩ := h
      rw [List.length_map, List.take_of_length_le (Nat.le_refl _)] at hD
      refine ⟨D, _, rfl, .inl ⟨SqL.of hD, fun tm ntm => ?_⟩⟩
      have g9 := g.new (o := .tup ((row.map fun x => y * x).map V.int)) ntm
      have dm : Dp K (upd F tm (.tup ((row.map fun x => y * x).map V.int))) (.ref tm) (ti (row.map fun x => y * x)) := Dp.of_ti (SqT.of upd_same)
      refine ⟨_, rfl, .ref tm, _, _, rfl, g9.sub, dm, by rw [List.length_map]; exact hl, fun bb H9 x9 hbb => ⟨bb, rfl, ite2 (fun e3 => ?_) (fun e3 => ?_)⟩⟩
      · have g10 := g9.trans (Gr.of_ex g9.sub x9)
        exact ⟨_, rfl, q _ _ _ _ (W2.gr g10) (Nf.refl.gr W2 K2 g10) (K2.trans g10.toKp) dm (by rw [List.length_map]; exact hl) (hbb e3)⟩
      · have g10 := g9.trans (Gr.of_ex g9.sub x9)
        exact ⟨_, rfl, q _ _ _ row (W2.gr g10) (Nf.refl.gr W2 K2 g10) (K2.trans g10.toKp) (hv.ex g10.fz) hl hmil⟩
/-! ### the law -/
def sp_law (K : PySem.W.Frag) : Sp := fun vs H Q _ => ∃ (a : Addr) (ns : List Int), vs = [.ref a] ∧ SqL K H a (ns.map V.int) ∧ ns.length ≤ 63 ∧ ∀ H', Q (.bl true) H'
theorem bareX_mil {row : List Int} (h : Mil row) : Mil (bareL row) := fun x hx => by
  by_cases hg : gc row = 0
  · unfold bareL at hx
    rw [if_pos hg] at hx
    exact h x hx
  · have e := bare_mul hg
    have hm : sc row * x ∈ row := by
      exact (congrArg (fun l => sc row * x ∈ l) e).mpr (List.mem_map_of_mem (f := fun x => sc row * x) hx)
    have h2 := h _ hm
    have h3 : (sc row * x).natAbs = (sc row).natAbs * x.natAbs := Int.natAbs_mul _ _
    have h4 : 1 ≤ (sc row).natAbs := by rw [sc_abs]; omega
    have h5 : x.natAbs ≤ (sc row).natAbs * x.natAbs := Nat.le_mul_of_pos_left _ h4
    omega
theorem bare_len (row : List Int) : (bareL row).length = row.length := by rw [bare_map, List.length_map]
theorem mil_sml {row : List Int} (h : Mil row) : ∀ x ∈ row, Sml x := fun x hx => sml_of (k := 20) (by have := h x hx; omega) (by decide) (by decide)
theorem ld_small {row : List Int} {k : Int} (h : IsLd row k) (hl : row.length ≤ 1000) : Sml k := by
  rcases h with ⟨rfl, _⟩ | ⟨n, x, rfl, e, _, _⟩
  · decide
  · have := (List.getElem?_eq_some_iff.mp e).1
    exact sml_of (k := 20) (by omega) (by decide) (by decide)
theorem ok_law {k : Nat} (T : Txt K mg) : FnG P w K mg base (k + 4) T.f_law T.fd_law ["_law_script"] (sp_law K) := by
  have G__law_deal : FnOk P w K mg base CX0 1 T.f__law_deal T.fd__law_deal ["_law_script", "_law_base"] (sp_deal K) := ok_deal T
  have G__law_draw : FnOk P w K mg base CX0 1 T.f__law_draw T.fd__law_draw ["_law_deal_here", "_law_many"] sp_draw := ok_draw T
  have G__law_times : FnOk P w K mg base CX0 2 T.f__law_times T.fd__law_times ["_law_deal_here", "_law_row_here"] (sp_times K) := ok_times T
  have G__law_row : FnOk P w K mg base CX0 3 T.f__law_row T.fd__law_row ["_law_deal_here", "_law_size", "_law_wide", "_law_known"] (sp_row K) := ok_row T
  have G__law_bare : FnOk P w K mg base CX0 1 T.f__law_bare T.fd__law_bare ["_law_row_here"] (sp_bare K) := ok_lbare T
  have G_bare : FnOk P w K mg base CX0 2 T.f_bare T.fd_bare ["row"] (sp_bare K) := ok_bare T
  have G_lead : FnOk P w K mg base CX0 1 T.f_lead T.fd_lead ["row"] (sp_lead K) := ok_lead T
  have G__law_lead := ok_llead (P := P) (w := w) (base := base) (k := 0) T
  refine okG T.F_law sc_law (fun vs H Q E h => ?_) (fun cdv A outer s H vs Q E hgd hr h => ?_)
  · obtain ⟨a, ns, rfl, _⟩ := h
    rfl
  · obtain ⟨a, ns, rfl, hS, hlen, q⟩ := h
    have hu66 : (A.deeper (envOfC "law" (defScope st_law) s.heap.objs.size T.f_law cdv)).units + 66 < cLine := by have := hr.un; omega
    refine ⟨_, (pss_cons (ps_set (i := 1) sc_law.nd rfl (Or.inl rfl) (pe_call G__law_deal (hr.mono (by omega)) (by rfl) T.g__law_deal T.F__law_deal.kp T.b__law_deal .nil pass0 (pa_cons (pv 0) (pa_cons pe_int pa_nil))))
      (pss_cons (ps_set (i := 2) sc_law.nd rfl (Or.inl rfl) (pe_lst pa_nil))
      (Evl.pss_cut (ps_for PassesOwn.never rfl (pi_range1 (by rfl) T.z_range (pa_cons pe_int pa_nil)) (pg_name (i := 3) sc_law.nd rfl (Or.inl rfl))
        (pss_cons (ps_set (i := 4) sc_law.nd rfl (Or.inl rfl) (pe_op op_add pe_int (pe_call G__law_draw (hr.mono (by omega)) (by rfl) T.g__law_draw T.F__law_draw.kp T.b__law_draw .nil pass0 (pa_cons (pv 1) (pa_cons pe_int pa_nil)))))
        (pss_one (ps_expr (pe_bmK (K := K) PySem.F.plainAttrs_list PySem.F.slot_list_append PySem.F.type_list_append mt_append (pv 2) (pa_cons (pe_call G__law_times (hr.mono (by omega)) (by rfl) T.g__law_times T.F__law_times.kp T.b__law_times .nil pass0 (pa_cons (pv 1) (pa_cons (pe_call G__law_row (hr.mono (by omega)) (by rfl) T.g__law_row T.F__law_row.kp T.b__law_row .nil pass0 (pa_cons (pv 1) (pa_cons (pv 4) (pa_cons (pe_ix (ix_listK (K := K)) (pe_lst (pa_cons pe_int (pa_cons pe_int (pa_cons pe_int (pa_cons pe_int (pa_cons (pe_op op_pow pe_int pe_int) pa_nil)))))) (pe_call G__law_draw (hr.mono (by omega)) (by rfl) T.g__law_draw T.F__law_draw.kp T.b__law_draw .nil pass0 (pa_cons (pv 1) (pa_cons pe_int pa_nil))) (fun _ _ => rfl)) (pa_cons (pe_lst pa_nil) pa_nil))))) pa_nil))) pa_nil))))))
      (Evl.pss_cut (ps_for PassesOwn.never rfl (pi_listK (K := K) (pe_op op_cat (pv 2) (pe_slice (sl_listK (K := K)) (pv 2) po_none (po_some pe_int)))) (pg_name (i := 5) sc_law.nd rfl (Or.inl rfl))
        (pss_cons (ps_set (i := 6) sc_law.nd rfl (Or.inl rfl) (pe_call G__law_bare (hr.mono (by omega)) (by rfl) T.g__law_bare T.F__law_bare.kp T.b__law_bare .nil pass0 (pa_cons (pv 5) pa_nil)))
        (pss_cons (ps_if (PW.pt (pw_or (pt_cmpR op_ne (pe_callB (call_reprD (K := K) hgd hu66) (by rfl) T.z_repr bt_repr (pa_cons (pe_call G_bare (hr.mono (by omega)) (by rfl) T.g_bare T.F_bare.kp T.b_bare .nil pass0 (pa_cons (pv 5) pa_nil)) pa_nil)) (pe_callB (call_reprD (K := K) hgd hu66) (by rfl) T.z_repr bt_repr (pa_cons (pv 6) pa_nil)) (nomark _)) (pw_or1 (pt_cmpR op_ne (pe_callB SkE.call_repr_int (by rfl) T.z_repr bt_repr (pa_cons (pe_call G_lead (hr.mono (by omega)) (by rfl) T.g_lead T.F_lead.kp T.b_lead .nil pass0 (pa_cons (pv 5) pa_nil)) pa_nil)) (pe_callB SkE.call_repr_int (by rfl) T.z_repr bt_repr (pa_cons (pe_call G__law_lead (hr.mono (by omega)) (by rfl) T.g__law_lead T.F__law_lead.kp T.b__law_lead .nil pass0 (pa_cons (pv 5) pa_nil)) pa_nil)) (nomark _))))) (pss_one (ps_ret pe_bl)) pss_nil)
        (pss_one (ps_if (PW.pt (pw_or (pt_cmpR op_ne (pe_callB (call_reprD (K := K) hgd hu66) (by rfl) T.z_repr bt_repr (pa_cons (pe_call G_bare (hr.mono (by omega)) (by rfl) T.g_bare T.F_bare.kp T.b_bare .nil pass0 (pa_cons (pv 6) pa_nil)) pa_nil)) (pe_callB (call_reprD (K := K) hgd hu66) (by rfl) T.z_repr bt_repr (pa_cons (pv 6) pa_nil)) (nomark _)) (pw_or1 (pt_cmpR op_ne (pe_call G_lead (hr.mono (by omega)) (by rfl) T.g_lead T.F_lead.kp T.b_lead .nil pass0 (pa_cons (pv 6) pa_nil)) (pe_call G_lead (hr.mono (by omega)) (by rfl) T.g_lead T.F_lead.kp T.b_lead .nil pass0 (pa_cons (pv 5) pa_nil)) (nomark _))))) (pss_one (ps_ret pe_bl)) pss_nil)))))
      (pss_one (ps_ret pe_bl)))))), ?_⟩
    refine ⟨.ref a, rfl, a, ns, 0, rfl, hS, hlen, by decide, by decide, fun d l H1 x1 nd nl D1 => ?_⟩
    refine ⟨Nat.zero_le _, fun pf npf => ?_⟩
    have npfd := D1.nd npf
    have W1 : Wr d l (fun _ => none) (upd H1 pf (.lst [])) := ⟨fun _ _ e => (by cases e), rfl, rfl, D1.upd npfd.1 npfd.2⟩
    refine ⟨fun σ H' => ∃ F' xs, ∃ rows : List (List Int), ∃ y3 y4 y5 y6, σ = [some (.ref a), some (.ref d), some (.ref pf), y3, y4, y5, y6] ∧ Wr d l F' H' ∧ F' pf = none ∧ H' pf = some (.lst xs) ∧ DpAll K F' xs (rows.map ti) ∧ rows.length = 12 ∧ ∀ r ∈ rows, r.length ≤ 1000 ∧ Mil r, ?_, ?_⟩
    · refine ⟨12, rfl, by decide, by decide, for_range (lo := 0) (n := 12) (fun i σ H' => ∃ F' xs, ∃ rows : List (List Int), ∃ y3 y4 y5 y6, σ = [some (.ref a), some (.ref d), some (.ref pf), y3, y4, y5, y6] ∧ Wr d l F' H' ∧ F' pf = none ∧ H' pf = some (.lst xs) ∧ DpAll K F' xs (rows.map ti) ∧ rows.length = i ∧ ∀ r ∈ rows, r.length ≤ 1000 ∧ Mil r) ⟨_, [], [], _, _, _, _, rfl, W1, rfl, upd_same, .nil, rfl, fun r hr => (by cases hr)⟩ (fun i σ H' hi h => ?_) (fun σ H' h => h)⟩
      obtain ⟨F2, xs, rows, y3, y4, y5, y6, rfl, W2, nf2, hp2, hrows, elr, hrl⟩ := h
      refine ⟨.ref d, rfl, d, l, 20, rfl, W2.deal, by decide, by decide, fun sz H3 s0 s1 D3 k3 => ⟨_, _, rfl, rfl, ?_⟩⟩
      have W3 := W2.draw D3 k3
      have hp3 := k3 pf _ npfd.1 npfd.2 hp2
      refine ⟨.ref pf, rfl, .inl ⟨rfl, _, SqL.of hp3⟩, .ref d, rfl, .ref d, rfl, .int (1 + sz), rfl, _, _, rfl, rfl, ⟨by decide, by decide, by decide⟩, by show 5 ≤ sizeLine; decide, fun p np => ?_⟩
      have npd := W3.ne np
      have W4 : Wr d l F2 (upd H3 p (.lst [.int 1, .int 3, .int 9, .int 1000, .int (10 ^ (6 : Int).toNat)])) := W3.newm np
      have hp4 := (Evl.Ex.new (o := .lst [V.int 1, .int 3, .int 9, .int 1000, .int (10 ^ (6 : Int).toNat)]) np) _ _ hp3
      refine ⟨.ref d, rfl, d, l, 5, rfl, W4.deal, by decide, by decide, fun r H5 r0 r1 D5 k5 => ?_⟩
      obtain ⟨v, ev, hv⟩ := at_in (xs := [.int 1, .int 3, .int 9, .int 1000, .int (10 ^ (6 : Int).toNat)]) r0 (by simpa using r1)
      obtain ⟨wd, rfl, y0, y1⟩ : ∃ y, v = .int y ∧ 0 ≤ y ∧ y ≤ 1000000 := by
        simp only [List.mem_cons, List.not_mem_nil, or_false] at hv
        rcases hv with rfl | rfl | rfl | rfl | rfl <;> exact ⟨_, rfl, by decide, by decide⟩
      have W5 := W4.draw D5 k5
      have hp5 := k5 pf _ npfd.1 npfd.2 hp4
      refine ⟨p, _, r, _, rfl, rfl, SqL.of (k5 p _ npd.1 npd.2 upd_same), ev, Nat.zero_le _, fun kn nkn => ?_⟩
      have nknd := W5.ne nkn
      have W6 : Wr d l F2 (upd H5 kn (.lst [])) := W5.newm nkn
      have hp6 := (Evl.Ex.new (o := .lst []) nkn) _ _ hp5
      obtain ⟨size, hsize⟩ : ∃ n : Nat, 1 + sz = n := ⟨(1 + sz).toNat, by omega⟩
      rw [hsize]
      refine ⟨d, l, kn, size, wd, [], [], F2, rfl, W6, by omega, by omega, y0, y1, upd_same, .nil, by decide, nknd.1, nknd.2, fun r hr => (by cases hr), fun v7 F7 H7 r7 W7 x7 k7 d7 l7 m7 => ?_⟩
      have hp7 := k7 pf _ npfd.1 npfd.2 hp6
      refine ⟨d, l, v7, r7, F7, rfl, W7, d7, by omega, m7, fun v8 F8 H8 r8 W8 x8 k8 d8 l8 m8 => ?_⟩
      have hp8 := k8 pf _ npfd.1 npfd.2 hp7
      have nf7 : F7 pf = none := x7.nf pf nf2 (by rw [hp6]; exact fun z => by cases z)
      have nf8 : F8 pf = none := x8.nf pf nf7 (by rw [hp7]; exact fun z => by cases z)
      refine ⟨pf, xs, v8, rfl, rfl, hp8, small1000 ?_, F8, xs ++ [v8], rows ++ [r8], _, _, _, _, rfl, W8.mut nf8 npfd.1 npfd.2, nf8, upd_same, ?_, by rw [List.length_append, elr]; rfl, fun r hr => ?_⟩
      · rw [DpAll.length hrows, List.length_map]
        omega
      · rw [List.map_append]
        exact (hrows.ex (x7.ex.trans x8.ex)).snoc d8
      · rcases List.mem_append.mp hr with h | h
        · exact hrl r h
        · rw [List.mem_singleton.mp h]; exact ⟨l8, m8⟩
    · rintro σ H2 ⟨F2, xs, rows, y3, y4, y5, y6, rfl, W2, nf2, hp2, hrows, elr, hrl⟩
      have hxl : xs.length = 12 := by rw [DpAll.length hrows, List.length_map]; exact elr
      refine ⟨fun _ _ => True, ?_, fun _ H' _ => q H'⟩
      refine ⟨.ref pf, rfl, .ref pf, rfl, 2, rfl, pf, _, rfl, SqL.of hp2, fun m2 nm2 => ?_⟩
      have hl2 := cut_len xs none (some 2)
      have hm2 : ∀ y ∈ cutV xs none (some 2), y ∈ xs := fun y hy => cut_mem hy
      generalize cutV xs none (some 2) = ys at nm2 hl2 hm2 ⊢
      have e0 : pf ≠ m2 := ne_of_none hp2 nm2
      refine ⟨pf, m2, _, _, rfl, rfl, by rw [upd_ne e0]; exact hp2, upd_same, Nat.le_of_lt (small1000 (by omega)), fun m3 nm3 => ?_⟩
      have x3 : Ex F2 (upd (upd H2 m2 (.lst ys)) m3 (.lst (xs ++ ys))) := (W2.sub.trans (Evl.Ex.new nm2)).trans (Evl.Ex.new nm3)
      have fm3 : F2 m3 = none := sub_none (W2.sub.trans (Evl.Ex.new nm2)) nm3
      refine ⟨m3, rfl, ⟨_, SqL.of upd_same⟩, for_list (K := K) (a := m3) (xs := xs ++ ys) (fun i σ H' => (∃ y3 y4 y5 y6, σ = [some (.ref a), some (.ref d), some (.ref pf), y3, y4, y5, y6]) ∧ ∃ F', Ex F2 F' ∧ Ex F' H' ∧ F' m3 = none ∧ H' m3 = some (.lst (xs ++ ys))) ⟨⟨_, _, _, _, rfl⟩, F2, Evl.Ex.refl F2, x3, fm3, upd_same⟩ (fun i σ H' _ h => ?_) (fun i x σ H3 hxi h => ?_) (fun _ _ _ => trivial)⟩
      · obtain ⟨_, F', _, _, _, h⟩ := h
        exact SqL.of h
      · obtain ⟨⟨y3, y4, y5, y6, rfl⟩, F3, f3, hF3, fm3, hm3⟩ := h
        obtain ⟨row, hrl1, hrm, dr⟩ : ∃ row : List Int, row.length ≤ 1000 ∧ Mil row ∧ Dp K F3 x (ti row) := by
          have hmem : x ∈ xs := by
            rcases List.mem_append.mp (List.mem_of_getElem? hxi) with h | h
            · exact h
            · exact hm2 x h
          obtain ⟨j, hj⟩ := List.mem_iff_getElem?.mp hmem
          obtain ⟨dd, ed, hdd⟩ := DpAll.get hrows hj
          rw [List.getElem?_map] at ed
          obtain ⟨row, er, rfl⟩ := Option.map_eq_some_iff.mp ed
          obtain ⟨h1, h2⟩ := hrl row (List.mem_of_getElem? er)
          exact ⟨row, h1, h2, hdd.ex f3⟩
        have hbm := bareX_mil hrm
        have hbl := bare_len row
        have size : (ti (bareL row)).shown.length ≤ sizeLine := by
          refine Nat.le_trans (ti_shown (mil_sml hbm)) ?_
          rw [hbl]
          exact Nat.le_trans (show _ ≤ 3000000 by omega) (by decide)
        have sw : (ti (bareL row)).showable = true := ti_showable (mil_sml hbm)
        have isref : ∀ {F : Hp} {v : V} {r : List Int}, Dp K F v (ti r) → ∃ a, v = .ref a := fun h => by
          obtain ⟨a, e, _⟩ := h.ti_inv
          exact ⟨a, e⟩
        -- due
        refine ⟨x, rfl, x, row, F3, rfl, hF3, dr, hrl1, hrm, fun vd F4 H4 g4 dd4 => ?_⟩
        replace dr := dr.ex g4.fz
        -- repr(bare(row)) != repr(due)
        refine ⟨x, rfl, x, row, F4, rfl, g4.sub, dr, hrl1, hrm, fun vb F5 H5 g5 db5 => ?_⟩
        replace dr := dr.ex g5.fz
        replace dd4 := dd4.ex g5.fz
        refine ⟨vb, _, rfl, db5.ex g5.sub, isref db5, ti_shaped _, sw, size, vd, rfl, vd, _, rfl, dd4.ex g5.sub, isref dd4, ti_shaped _, sw, size, rfl, _, rfl, ?_⟩
        rw [decide_eq_true rfl]
        refine iteF ?_
        -- repr(lead(row)) != repr(_law_lead(row))
        refine ⟨x, rfl, x, row, F5, rfl, g5.sub, dr, hrl1, fun k1 hk1 => ⟨k1, rfl, ld_small hk1 hrl1, x, rfl, x, row, F5, rfl, g5.sub, dr, hrl1, fun k2 H6 x6 hk2 => ⟨k2, rfl, ld_small hk2 hrl1, rfl, _, rfl, ?_⟩⟩⟩
        rw [hk1.uniq hk2, decide_eq_true rfl]
        refine iteF ?_
        have g6 := Gr.of_ex g5.sub x6
        -- repr(bare(due)) != repr(due)
        refine ⟨vd, rfl, vd, bareL row, F5, rfl, g6.sub, dd4, by omega, hbm, fun vc F7 H7 g7 dc7 => ?_⟩
        rw [bare_bare] at dc7
        replace dr := dr.ex g7.fz
        replace dd4 := dd4.ex g7.fz
        refine ⟨vc, _, rfl, dc7.ex g7.sub, isref dc7, ti_shaped _, sw, size, vd, rfl, vd, _, rfl, dd4.ex g7.sub, isref dd4, ti_shaped _, sw, size, rfl, _, rfl, ?_⟩
        rw [decide_eq_true rfl]
        refine iteF ?_
        refine ⟨vd, rfl, vd, bareL row, F7, rfl, g7.sub, dd4, by omega, fun k3 hk3 => ⟨x, rfl, x, row, F7, rfl, g7.sub, dr, hrl1, fun k4 hk4 => ⟨rfl, _, rfl, ?_⟩⟩⟩
        rw [hk3.bare.uniq hk4, decide_eq_true rfl]
        have ga := (g4.trans g5).trans (g6.trans g7)
        obtain ⟨nm, hm⟩ := ga.keepm (fun h => h) fm3 hm3
        exact iteF ⟨⟨_, _, _, _, rfl⟩, F7, f3.trans ga.fz, ga.sub, nm, hm⟩
abbrev level : Nat := 4
theorem law_starts {K : PySem.W.Frag} {H : Hp} {a : Addr} {ns : List Int} (hl : ns.length ≤ 63) (hS : SqL K H a (ns.map V.int)) : sp_law K [.ref a] H (fun v _ => v = .bl true) fun _ _ _ => False := ⟨a, ns, rfl, hS, hl, fun _ => rfl⟩
theorem law_ok {fa : Addr} (hmg : mg "law" = some (.ref fa)) (T : Txt K mg) :
    ∃ fd : FuncData, (∀ (s : Shared) (v : Value), BindsTo s fd ⟨[v], []⟩ [("_law_script", v)]) ∧ ∀ base : Heap, K.In base → base.Ns mainGlobals mg → FnG P w K mg base level fa fd ["_law_script"] (sp_law K) := by
  have e := hmg.symm.trans T.g_law
  cases e
  refine ⟨T.fd_law, fun s v => ?_, fun base _ _ => ok_law T⟩
  obtain ⟨oc, od, kV, doc, pm, an, cdv, ct, osl, e, lk, hcd⟩ := T.F_law.ex
  rw [e]
  exact .of_eq rfl

end
def txt_mk {K : PySem.W.Frag} {h : Heap} {mg : Str → Option Value} (X : K.In h) (G : h.Ns mainGlobals mg)
    {f_common : Addr} {od_common an_common : Option Addr} {sl_common : Array (Option Value)} {oc_common kV_common dc_common pm_common cd_common ct_common : Value}
    (a_common : PySem.W.nsIn K mainGlobals "common" = some (some (.ref f_common))) (l_common : K.lookup f_common = some ⟨oc_common, od_common, .func (PySem.W.fnOf "common" "common" (defArgs st_common) (defBody st_common) (defScope st_common) .none kV_common dc_common pm_common an_common cd_common ct_common), sl_common⟩) (c_common : PySem.W.codeIn K cd_common "common" = true) (k_common : PySem.W.keepIn K (.ref f_common) = true)
    {f_lead : Addr} {od_lead an_lead : Option Addr} {sl_lead : Array (Option Value)} {oc_lead kV_lead dc_lead pm_lead cd_lead ct_lead : Value}
    (a_lead : PySem.W.nsIn K mainGlobals "lead" = some (some (.ref f_lead))) (l_lead : K.lookup f_lead = some ⟨oc_lead, od_lead, .func (PySem.W.fnOf "lead" "lead" (defArgs st_lead) (defBody st_lead) (defScope st_lead) .none kV_lead dc_lead pm_lead an_lead cd_lead ct_lead), sl_lead⟩) (c_lead : PySem.W.codeIn K cd_lead "lead" = true) (k_lead : PySem.W.keepIn K (.ref f_lead) = true)
    {f_bare : Addr} {od_bare an_bare : Option Addr} {sl_bare : Array (Option Value)} {oc_bare kV_bare dc_bare pm_bare cd_bare ct_bare : Value}
    (a_bare : PySem.W.nsIn K mainGlobals "bare" = some (some (.ref f_bare))) (l_bare : K.lookup f_bare = some ⟨oc_bare, od_bare, .func (PySem.W.fnOf "bare" "bare" (defArgs st_bare) (defBody st_bare) (defScope st_bare) .none kV_bare dc_bare pm_bare an_bare cd_bare ct_bare), sl_bare⟩) (c_bare : PySem.W.codeIn K cd_bare "bare" = true) (k_bare : PySem.W.keepIn K (.ref f_bare) = true)
    {f__law_deal : Addr} {od__law_deal an__law_deal : Option Addr} {sl__law_deal : Array (Option Value)} {oc__law_deal kV__law_deal dc__law_deal pm__law_deal cd__law_deal ct__law_deal : Value}
    (a__law_deal : PySem.W.nsIn K mainGlobals "_law_deal" = some (some (.ref f__law_deal))) (l__law_deal : K.lookup f__law_deal = some ⟨oc__law_deal, od__law_deal, .func (PySem.W.fnOf "_law_deal" "_law_deal" (defArgs st__law_deal) (defBody st__law_deal) (defScope st__law_deal) .none kV__law_deal dc__law_deal pm__law_deal an__law_deal cd__law_deal ct__law_deal), sl__law_deal⟩) (c__law_deal : PySem.W.codeIn K cd__law_deal "_law_deal" = true) (k__law_deal : PySem.W.keepIn K (.ref f__law_deal) = true)
    {f__law_draw : Addr} {od__law_draw an__law_draw : Option Addr} {sl__law_draw : Array (Option Value)} {oc__law_draw kV__law_draw dc__law_draw pm__law_draw cd__law_draw ct__law_draw : Value}
    (a__law_draw : PySem.W.nsIn K mainGlobals "_law_draw" = some (some (.ref f__law_draw))) (l__law_draw : K.lookup f__law_draw = some ⟨oc__law_draw, od__law_draw, .func (PySem.W.fnOf "_law_draw" "_law_draw" (defArgs st__law_draw) (defBody st__law_draw) (defScope st__law_draw) .none kV__law_draw dc__law_draw pm__law_draw an__law_draw cd__law_draw ct__law_draw), sl__law_draw⟩) (c__law_draw : PySem.W.codeIn K cd__law_draw "_law_draw" = true) (k__law_draw : PySem.W.keepIn K (.ref f__law_draw) = true)
    {f__law_number : Addr} {od__law_number an__law_number : Option Addr} {sl__law_number : Array (Option Value)} {oc__law_number kV__law_number dc__law_number pm__law_number cd__law_number ct__law_number : Value}
    (a__law_number : PySem.W.nsIn K mainGlobals "_law_number" = some (some (.ref f__law_number))) (l__law_number : K.lookup f__law_number = some ⟨oc__law_number, od__law_number, .func (PySem.W.fnOf "_law_number" "_law_number" (defArgs st__law_number) (defBody st__law_number) (defScope st__law_number) .none kV__law_number dc__law_number pm__law_number an__law_number cd__law_number ct__law_number), sl__law_number⟩) (c__law_number : PySem.W.codeIn K cd__law_number "_law_number" = true) (k__law_number : PySem.W.keepIn K (.ref f__law_number) = true)
    {f__law_within : Addr} {od__law_within an__law_within : Option Addr} {sl__law_within : Array (Option Value)} {oc__law_within kV__law_within dc__law_within pm__law_within cd__law_within ct__law_within : Value}
    (a__law_within : PySem.W.nsIn K mainGlobals "_law_within" = some (some (.ref f__law_within))) (l__law_within : K.lookup f__law_within = some ⟨oc__law_within, od__law_within, .func (PySem.W.fnOf "_law_within" "_law_within" (defArgs st__law_within) (defBody st__law_within) (defScope st__law_within) .none kV__law_within dc__law_within pm__law_within an__law_within cd__law_within ct__law_within), sl__law_within⟩) (c__law_within : PySem.W.codeIn K cd__law_within "_law_within" = true) (k__law_within : PySem.W.keepIn K (.ref f__law_within) = true)
    {f__law_row : Addr} {od__law_row an__law_row : Option Addr} {sl__law_row : Array (Option Value)} {oc__law_row kV__law_row dc__law_row pm__law_row cd__law_row ct__law_row : Value}
    (a__law_row : PySem.W.nsIn K mainGlobals "_law_row" = some (some (.ref f__law_row))) (l__law_row : K.lookup f__law_row = some ⟨oc__law_row, od__law_row, .func (PySem.W.fnOf "_law_row" "_law_row" (defArgs st__law_row) (defBody st__law_row) (defScope st__law_row) .none kV__law_row dc__law_row pm__law_row an__law_row cd__law_row ct__law_row), sl__law_row⟩) (c__law_row : PySem.W.codeIn K cd__law_row "_law_row" = true) (k__law_row : PySem.W.keepIn K (.ref f__law_row) = true)
    {f__law_rows : Addr} {od__law_rows an__law_rows : Option Addr} {sl__law_rows : Array (Option Value)} {oc__law_rows kV__law_rows dc__law_rows pm__law_rows cd__law_rows ct__law_rows : Value}
    (a__law_rows : PySem.W.nsIn K mainGlobals "_law_rows" = some (some (.ref f__law_rows))) (l__law_rows : K.lookup f__law_rows = some ⟨oc__law_rows, od__law_rows, .func (PySem.W.fnOf "_law_rows" "_law_rows" (defArgs st__law_rows) (defBody st__law_rows) (defScope st__law_rows) .none kV__law_rows dc__law_rows pm__law_rows an__law_rows cd__law_rows ct__law_rows), sl__law_rows⟩) (c__law_rows : PySem.W.codeIn K cd__law_rows "_law_rows" = true) (k__law_rows : PySem.W.keepIn K (.ref f__law_rows) = true)
    {f__law_bare : Addr} {od__law_bare an__law_bare : Option Addr} {sl__law_bare : Array (Option Value)} {oc__law_bare kV__law_bare dc__law_bare pm__law_bare cd__law_bare ct__law_bare : Value}
    (a__law_bare : PySem.W.nsIn K mainGlobals "_law_bare" = some (some (.ref f__law_bare))) (l__law_bare : K.lookup f__law_bare = some ⟨oc__law_bare, od__law_bare, .func (PySem.W.fnOf "_law_bare" "_law_bare" (defArgs st__law_bare) (defBody st__law_bare) (defScope st__law_bare) .none kV__law_bare dc__law_bare pm__law_bare an__law_bare cd__law_bare ct__law_bare), sl__law_bare⟩) (c__law_bare : PySem.W.codeIn K cd__law_bare "_law_bare" = true) (k__law_bare : PySem.W.keepIn K (.ref f__law_bare) = true)
    {f__law_lead : Addr} {od__law_lead an__law_lead : Option Addr} {sl__law_lead : Array (Option Value)} {oc__law_lead kV__law_lead dc__law_lead pm__law_lead cd__law_lead ct__law_lead : Value}
    (a__law_lead : PySem.W.nsIn K mainGlobals "_law_lead" = some (some (.ref f__law_lead))) (l__law_lead : K.lookup f__law_lead = some ⟨oc__law_lead, od__law_lead, .func (PySem.W.fnOf "_law_lead" "_law_lead" (defArgs st__law_lead) (defBody st__law_lead) (defScope st__law_lead) .none kV__law_lead dc__law_lead pm__law_lead an__law_lead cd__law_lead ct__law_lead), sl__law_lead⟩) (c__law_lead : PySem.W.codeIn K cd__law_lead "_law_lead" = true) (k__law_lead : PySem.W.keepIn K (.ref f__law_lead) = true)
    {f__law_times : Addr} {od__law_times an__law_times : Option Addr} {sl__law_times : Array (Option Value)} {oc__law_times kV__law_times dc__law_times pm__law_times cd__law_times ct__law_times : Value}
    (a__law_times : PySem.W.nsIn K mainGlobals "_law_times" = some (some (.ref f__law_times))) (l__law_times : K.lookup f__law_times = some ⟨oc__law_times, od__law_times, .func (PySem.W.fnOf "_law_times" "_law_times" (defArgs st__law_times) (defBody st__law_times) (defScope st__law_times) .none kV__law_times dc__law_times pm__law_times an__law_times cd__law_times ct__law_times), sl__law_times⟩) (c__law_times : PySem.W.codeIn K cd__law_times "_law_times" = true) (k__law_times : PySem.W.keepIn K (.ref f__law_times) = true)
    {f_law : Addr} {od_law an_law : Option Addr} {sl_law : Array (Option Value)} {oc_law kV_law dc_law pm_law cd_law ct_law : Value}
    (a_law : PySem.W.nsIn K mainGlobals "law" = some (some (.ref f_law))) (l_law : K.lookup f_law = some ⟨oc_law, od_law, .func (PySem.W.fnOf "law" "law" (defArgs st_law) (defBody st_law) (defScope st_law) .none kV_law dc_law pm_law an_law cd_law ct_law), sl_law⟩) (c_law : PySem.W.codeIn K cd_law "law" = true) (k_law : PySem.W.keepIn K (.ref f_law) = true)
    (z_abs : PySem.W.nsIn K mainGlobals "abs" = some none)
    (z_all : PySem.W.nsIn K mainGlobals "all" = some none)
    (z_int : PySem.W.nsIn K mainGlobals "int" = some none)
    (z_len : PySem.W.nsIn K mainGlobals "len" = some none)
    (z_list : PySem.W.nsIn K mainGlobals "list" = some none)
    (z_max : PySem.W.nsIn K mainGlobals "max" = some none)
    (z_range : PySem.W.nsIn K mainGlobals "range" = some none)
    (z_repr : PySem.W.nsIn K mainGlobals "repr" = some none)
    (z_reversed : PySem.W.nsIn K mainGlobals "reversed" = some none)
    (z_tuple : PySem.W.nsIn K mainGlobals "tuple" = some none)
    (z_zip : PySem.W.nsIn K mainGlobals "zip" = some none) : Txt K mg :=
  {
    f_common := f_common, fd_common := _, F_common := fun_mk (st := st_common) l_common c_common k_common, b_common := (fun_mk (st := st_common) l_common c_common k_common).binds (ps := ["one", "other"]) fun _ _ _ _ _ _ us hl => match us, hl with | [_, _], _ => rfl, g_common := PySem.W.mg_of X G a_common,
    f_lead := f_lead, fd_lead := _, F_lead := fun_mk (st := st_lead) l_lead c_lead k_lead, b_lead := (fun_mk (st := st_lead) l_lead c_lead k_lead).binds (ps := ["row"]) fun _ _ _ _ _ _ us hl => match us, hl with | [_], _ => rfl, g_lead := PySem.W.mg_of X G a_lead,
    f_bare := f_bare, fd_bare := _, F_bare := fun_mk (st := st_bare) l_bare c_bare k_bare, b_bare := (fun_mk (st := st_bare) l_bare c_bare k_bare).binds (ps := ["row"]) fun _ _ _ _ _ _ us hl => match us, hl with | [_], _ => rfl, g_bare := PySem.W.mg_of X G a_bare,
    f__law_deal := f__law_deal, fd__law_deal := _, F__law_deal := fun_mk (st := st__law_deal) l__law_deal c__law_deal k__law_deal, b__law_deal := (fun_mk (st := st__law_deal) l__law_deal c__law_deal k__law_deal).binds (ps := ["_law_script", "_law_base"]) fun _ _ _ _ _ _ us hl => match us, hl with | [_, _], _ => rfl, g__law_deal := PySem.W.mg_of X G a__law_deal,
    f__law_draw := f__law_draw, fd__law_draw := _, F__law_draw := fun_mk (st := st__law_draw) l__law_draw c__law_draw k__law_draw, b__law_draw := (fun_mk (st := st__law_draw) l__law_draw c__law_draw k__law_draw).binds (ps := ["_law_deal_here", "_law_many"]) fun _ _ _ _ _ _ us hl => match us, hl with | [_, _], _ => rfl, g__law_draw := PySem.W.mg_of X G a__law_draw,
    f__law_number := f__law_number, fd__law_number := _, F__law_number := fun_mk (st := st__law_number) l__law_number c__law_number k__law_number, b__law_number := (fun_mk (st := st__law_number) l__law_number c__law_number k__law_number).binds (ps := ["_law_deal_here", "_law_wide"]) fun _ _ _ _ _ _ us hl => match us, hl with | [_, _], _ => rfl, g__law_number := PySem.W.mg_of X G a__law_number,
    f__law_within := f__law_within, fd__law_within := _, F__law_within := fun_mk (st := st__law_within) l__law_within c__law_within k__law_within, b__law_within := (fun_mk (st := st__law_within) l__law_within c__law_within k__law_within).binds (ps := ["_law_row_here"]) fun _ _ _ _ _ _ us hl => match us, hl with | [_], _ => rfl, g__law_within := PySem.W.mg_of X G a__law_within,
    f__law_row := f__law_row, fd__law_row := _, F__law_row := fun_mk (st := st__law_row) l__law_row c__law_row k__law_row, b__law_row := (fun_mk (st := st__law_row) l__law_row c__law_row k__law_row).binds (ps := ["_law_deal_here", "_law_size", "_law_wide", "_law_known"]) fun _ _ _ _ _ _ us hl => match us, hl with | [_, _, _, _], _ => rfl, g__law_row := PySem.W.mg_of X G a__law_row,
    f__law_rows := f__law_rows, fd__law_rows := _, F__law_rows := fun_mk (st := st__law_rows) l__law_rows c__law_rows k__law_rows, b__law_rows := (fun_mk (st := st__law_rows) l__law_rows c__law_rows k__law_rows).binds (ps := ["_law_deal_here", "_law_most", "_law_size"]) fun _ _ _ _ _ _ us hl => match us, hl with | [_, _, _], _ => rfl, g__law_rows := PySem.W.mg_of X G a__law_rows,
    f__law_bare := f__law_bare, fd__law_bare := _, F__law_bare := fun_mk (st := st__law_bare) l__law_bare c__law_bare k__law_bare, b__law_bare := (fun_mk (st := st__law_bare) l__law_bare c__law_bare k__law_bare).binds (ps := ["_law_row_here"]) fun _ _ _ _ _ _ us hl => match us, hl with | [_], _ => rfl, g__law_bare := PySem.W.mg_of X G a__law_bare,
    f__law_lead := f__law_lead, fd__law_lead := _, F__law_lead := fun_mk (st := st__law_lead) l__law_lead c__law_lead k__law_lead, b__law_lead := (fun_mk (st := st__law_lead) l__law_lead c__law_lead k__law_lead).binds (ps := ["_law_row_here"]) fun _ _ _ _ _ _ us hl => match us, hl with | [_], _ => rfl, g__law_lead := PySem.W.mg_of X G a__law_lead,
    f__law_times := f__law_times, fd__law_times := _, F__law_times := fun_mk (st := st__law_times) l__law_times c__law_times k__law_times, b__law_times := (fun_mk (st := st__law_times) l__law_times c__law_times k__law_times).binds (ps := ["_law_deal_here", "_law_row_here"]) fun _ _ _ _ _ _ us hl => match us, hl with | [_, _], _ => rfl, g__law_times := PySem.W.mg_of X G a__law_times,
    f_law := f_law, fd_law := _, F_law := fun_mk (st := st_law) l_law c_law k_law, b_law := (fun_mk (st := st_law) l_law c_law k_law).binds (ps := ["_law_script"]) fun _ _ _ _ _ _ us hl => match us, hl with | [_], _ => rfl, g_law := PySem.W.mg_of X G a_law,
    z_abs := PySem.W.mg_none_of X G z_abs,
    z_all := PySem.W.mg_none_of X G z_all,
    z_int := PySem.W.mg_none_of X G z_int,
    z_len := PySem.W.mg_none_of X G z_len,
    z_list := PySem.W.mg_none_of X G z_list,
    z_max := PySem.W.mg_none_of X G z_max,
    z_range := PySem.W.mg_none_of X G z_range,
    z_repr := PySem.W.mg_none_of X G z_repr,
    z_reversed := PySem.W.mg_none_of X G z_reversed,
    z_tuple := PySem.W.mg_none_of X G z_tuple,
    z_zip := PySem.W.mg_none_of X G z_zip }
end LW
open PySem PySem.W PyProof.Rows
set_option maxHeartbeats 0 in
theorem PySem.Challenge.cw_curvekept_k06_rows_made_bare_holds : PySem.Challenge.rw_curvekept_k06_rows_made_bare.Holds := by
  w_on; o_law; k_head; (case hw => w_witness2)
  k_fill
  refine CB.walkG (l := PySem.Challenge.rw_curvekept_k06_rows_made_bare) (n := 63) (k := LW.level) (x := "_law_script") (sp := fun w => LW.sp_law _) rfl (by decide) rfl ⟨rfl, by decide, by decide⟩ (fun w h Y => PySem.W.kIn_of Y) ?F (fun _ _ a ns hl hS => LW.law_starts hl hS)
  case F =>
    intro w mg fa h KX G hmg
    refine' LW.law_ok hmg (LW.txt_mk KX G ?a_common ?l_common ?c_common ?k_common ?a_lead ?l_lead ?c_lead ?k_lead ?a_bare ?l_bare ?c_bare ?k_bare ?a__law_deal ?l__law_deal ?c__law_deal ?k__law_deal ?a__law_draw ?l__law_draw ?c__law_draw ?k__law_draw ?a__law_number ?l__law_number ?c__law_number ?k__law_number ?a__law_within ?l__law_within ?c__law_within ?k__law_within ?a__law_row ?l__law_row ?c__law_row ?k__law_row ?a__law_rows ?l__law_rows ?c__law_rows ?k__law_rows ?a__law_bare ?l__law_bare ?c__law_bare ?k__law_bare ?a__law_lead ?l__law_lead ?c__law_lead ?k__law_lead ?a__law_times ?l__law_times ?c__law_times ?k__law_times ?a_law ?l_law ?c_law ?k_law ?z_abs ?z_all ?z_int ?z_len ?z_list ?z_max ?z_range ?z_repr ?z_reversed ?z_tuple ?z_zip)
    (case a_common => k_is); (case l_common => k_is); (case c_common => k_is); (case k_common => k_is); (case a_lead => k_is); (case l_lead => k_is); (case c_lead => k_is); (case k_lead => k_is); (case a_bare => k_is); (case l_bare => k_is); (case c_bare => k_is); (case k_bare => k_is); (case a__law_deal => k_is); (case l__law_deal => k_is); (case c__law_deal => k_is); (case k__law_deal => k_is); (case a__law_draw => k_is); (case l__law_draw => k_is); (case c__law_draw => k_is); (case k__law_draw => k_is); (case a__law_number => k_is); (case l__law_number => k_is); (case c__law_number => k_is); (case k__law_number => k_is); (case a__law_within => k_is); (case l__law_within => k_is); (case c__law_within => k_is); (case k__law_within => k_is); (case a__law_row => k_is); (case l__law_row => k_is); (case c__law_row => k_is); (case k__law_row => k_is); (case a__law_rows => k_is); (case l__law_rows => k_is); (case c__law_rows => k_is); (case k__law_rows => k_is); (case a__law_bare => k_is); (case l__law_bare => k_is); (case c__law_bare => k_is); (case k__law_bare => k_is); (case a__law_lead => k_is); (case l__law_lead => k_is); (case c__law_lead => k_is); (case k__law_lead => k_is); (case a__law_times => k_is); (case l__law_times => k_is); (case c__law_times => k_is); (case k__law_times => k_is); (case a_law => k_is); (case l_law => k_is); (case c_law => k_is); (case k_law => k_is); (case z_abs => k_is); (case z_all => k_is); (case z_int => k_is); (case z_len => k_is); (case z_list => k_is); (case z_max => k_is); (case z_range => k_is); (case z_repr => k_is); (case z_reversed => k_is); (case z_tuple => k_is); (case z_zip => k_is)
